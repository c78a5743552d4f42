import PyProof.Rows.All
import Wide.All
import OpenK.AllK
import Wide.FinOn
import HandS.ForMost
import HandS.EndBits
import HandS.Wide
import HandS.WideMore
import HandS.TupAny
import HandS.TupMul
import HandS.Conv
import HandS.Deep
import HandS.DictTup
import HandS.SortOrd
import HandS.IsInst
import HandS.TupLe
import HandS.Codes
import HandS.Zip
import HandS.RevRange
import HandS.SortInts
import HandS.SetFor
import HandS.SortRule
import HandS.Strs
import PySem.Challenge.RW_latewords_k68_rows_taken_round
set_option Elab.async false
set_option linter.all false
set_option maxRecDepth 100000
/-! trees of plain values, and what stands for them in the abstract heap -/
namespace LW
open PySem PySem.Spec PyProof.Rows L2

inductive T where
  | non | bl (b : Bool) | int (i : Int) | str (x : Str) | lst (xs : List T) | tup (xs : List T) | lkl (xs : List T) | fn (k : Nat) | dic (lk : Bool) (ks : List Key) (xs : List T)
  deriving Inhabited

mutual
inductive Rep (K : PySem.W.Frag) (fa : Nat → Addr) (G : Hp) : V → T → Prop
  | non : Rep K fa G .non .non
  | bl (b : Bool) : Rep K fa G (.bl b) (.bl b)
  | int (i : Int) : Rep K fa G (.int i) (.int i)
  | str (x : Str) : Rep K fa G (.str x) (.str x)
  | lst {a : Addr} {vs : List V} {ts : List T} : G a = some (.lst vs) → RepAll K fa G vs ts → Rep K fa G (.ref a) (.lst ts)
  | tup {a : Addr} {vs : List V} {ts : List T} : SqT K G a vs → RepAll K fa G vs ts → Rep K fa G (.ref a) (.tup ts)
  | lkl {a : Addr} {vs : List V} {ts : List T} : SqL K G a vs → RepAll K fa G vs ts → Rep K fa G (.ref a) (.lkl ts)
  | fn (k : Nat) : Rep K fa G (.ref (fa k)) (.fn k)
  | dic {lk : Bool} {a : Addr} {vs : List (Key × V)} {ks : List Key} {ts : List T} : Rd G a (.dK vs) → (lk = true → ∃ o, G a = some (.frz o (.dK vs))) → vs.map (·.1) = ks → RepAll K fa G (vs.map (·.2)) ts → Rep K fa G (.ref a) (.dic lk ks ts)
inductive RepAll (K : PySem.W.Frag) (fa : Nat → Addr) (G : Hp) : List V → List T → Prop
  | nil : RepAll K fa G [] []
  | cons {v : V} {vs : List V} {t : T} {ts : List T} : Rep K fa G v t → RepAll K fa G vs ts → RepAll K fa G (v :: vs) (t :: ts)
end

theorem same_sqT {K : PySem.W.Frag} {H H' : Hp} {a : Addr} {xs : List V} (e : Same H H') (h : SqT K H a xs) : SqT K H' a xs := by
  rcases h with (h | ⟨o, h⟩) | h
  · exact .inl (.inl (e _ _ h))
  · exact .inl (.inr ⟨o, e _ _ h⟩)
  · exact .inr h

section
variable {K : PySem.W.Frag} {fa : Nat → Addr} {G G' H H' : Hp}
mutual
theorem Rep.mono (s : Same G G') : ∀ {t : T} {v : V}, Rep K fa G v t → Rep K fa G' v t
  | .non, _, h => by cases h; exact .non
  | .bl b, _, h => by cases h; exact .bl b
  | .int i, _, h => by cases h; exact .int i
  | .str x, _, h => by cases h; exact .str x
  | .lst ts, _, h => by
    cases h with
    | lst e r => exact .lst (s _ _ e) (RepAll.mono s r)
  | .tup ts, _, h => by
    cases h with
    | tup e r => exact .tup (same_sqT s e) (RepAll.mono s r)
  | .lkl ts, _, h => by
    cases h with
    | lkl e r => exact .lkl (s.seq e) (RepAll.mono s r)
  | .fn k, _, h => by cases h; exact .fn k
  | .dic lk ks ts, _, h => by
    cases h with
    | dic e f q r => exact .dic (e.elim (fun e => .inl (s _ _ e)) fun ⟨o, e⟩ => .inr ⟨o, s _ _ e⟩) (fun z => let ⟨o, e⟩ := f z; ⟨o, s _ _ e⟩) q (RepAll.mono s r)
theorem RepAll.mono (s : Same G G') : ∀ {ts : List T} {vs : List V}, RepAll K fa G vs ts → RepAll K fa G' vs ts
  | [], _, h => by cases h; exact .nil
  | t :: ts, _, h => by
    cases h with
    | cons a b => exact .cons (Rep.mono s a) (RepAll.mono s b)
end
theorem RepAll.length : ∀ {ts : List T} {vs : List V}, RepAll K fa G vs ts → vs.length = ts.length
  | [], _, h => by cases h; rfl
  | t :: ts, _, h => by
    cases h with
    | cons a b => simp [RepAll.length b]
theorem RepAll.get : ∀ {ts : List T} {vs : List V} {i : Nat} {t : T}, RepAll K fa G vs ts → ts[i]? = some t → ∃ v, vs[i]? = some v ∧ Rep K fa G v t
  | [], _, _, _, h, e => by simp at e
  | t :: ts, _, 0, _, h, e => by
    cases h with
    | cons a b => simp at e; subst e; exact ⟨_, by simp, a⟩
  | t :: ts, _, i + 1, _, h, e => by
    cases h with
    | cons a b =>
      obtain ⟨v, h1, h2⟩ := RepAll.get (i := i) b (by simpa using e)
      exact ⟨v, by simpa using h1, h2⟩
theorem RepAll.append : ∀ {ts us : List T} {vs ws : List V}, RepAll K fa G vs ts → RepAll K fa G ws us → RepAll K fa G (vs ++ ws) (ts ++ us)
  | [], _, _, _, h, g => by cases h; exact g
  | t :: ts, _, _, _, h, g => by
    cases h with
    | cons a b => exact .cons a (RepAll.append b g)
theorem RepAll.one {v : V} {t : T} (h : Rep K fa G v t) : RepAll K fa G [v] [t] := .cons h .nil
theorem RepAll.take : ∀ {ts : List T} {vs : List V} (n : Nat), RepAll K fa G vs ts → RepAll K fa G (vs.take n) (ts.take n)
  | _, _, 0, _ => by simpa using RepAll.nil
  | [], _, n + 1, h => by cases h; exact .nil
  | t :: ts, _, n + 1, h => by
    cases h with
    | cons a b => exact .cons a (RepAll.take n b)
theorem RepAll.drop : ∀ {ts : List T} {vs : List V} (n : Nat), RepAll K fa G vs ts → RepAll K fa G (vs.drop n) (ts.drop n)
  | _, _, 0, h => h
  | [], _, n + 1, h => by cases h; exact .nil
  | t :: ts, _, n + 1, h => by
    cases h with
    | cons a b => exact RepAll.drop n b
theorem RepAll.set : ∀ {ts : List T} {vs : List V} {v : V} {t : T} (n : Nat), RepAll K fa G vs ts → Rep K fa G v t → RepAll K fa G (vs.set n v) (ts.set n t)
  | [], _, _, _, _, h, _ => by cases h; exact .nil
  | t :: ts, _, _, _, 0, h, g => by
    cases h with
    | cons a b => exact .cons g b
  | t :: ts, _, _, _, n + 1, h, g => by
    cases h with
    | cons a b => exact .cons a (RepAll.set n b g)
theorem RepAll.dropLast {ts : List T} {vs : List V} (h : RepAll K fa G vs ts) : RepAll K fa G vs.dropLast ts.dropLast := by
  rw [List.dropLast_eq_take, List.dropLast_eq_take, h.length]
  exact h.take _
theorem RepAll.rev {ts : List T} {vs : List V} (h : RepAll K fa G vs ts) : RepAll K fa G vs.reverse ts.reverse := by
  induction ts generalizing vs with
  | nil => cases h; exact .nil
  | cons t ts ih =>
    cases h with
    | cons a b => rw [List.reverse_cons, List.reverse_cons]; exact (ih b).append (.one a)
theorem RepAll.of_get : ∀ {ts : List T} {vs : List V}, vs.length = ts.length → (∀ (i : Nat) (v : V) (t : T), vs[i]? = some v → ts[i]? = some t → Rep K fa G v t) → RepAll K fa G vs ts
  | [], [], _, _ => .nil
  | t :: ts, v :: vs, hl, h => .cons (h 0 v t rfl rfl) (RepAll.of_get (by simpa using hl) fun i v' t' a b => h (i + 1) v' t' (by simpa using a) (by simpa using b))
  | [], _ :: _, hl, _ => by simp at hl
  | _ :: _, [], hl, _ => by simp at hl
theorem RepAll.flatten_rep {ts : List T} {vs : List V} (h : RepAll K fa G vs ts) : ∀ n : Nat, RepAll K fa G (List.replicate n vs).flatten (List.replicate n ts).flatten
  | 0 => .nil
  | n + 1 => by rw [List.replicate_succ, List.replicate_succ, List.flatten_cons, List.flatten_cons]; exact h.append (RepAll.flatten_rep h n)
theorem RepAll.ints : ∀ {vs : List V} {ns : List Int}, RepAll K fa G vs (ns.map T.int) → vs = ns.map V.int
  | _, [], h => by cases h; rfl
  | _, n :: ns, h => by
    cases h with
    | cons a b => cases a; rw [RepAll.ints b]; rfl
theorem RepAll.of_ints : ∀ (ns : List Int), RepAll K fa G (ns.map V.int) (ns.map T.int)
  | [] => .nil
  | n :: ns => .cons (.int n) (RepAll.of_ints ns)
theorem RepAll.bls : ∀ {vs : List V} {ns : List Bool}, RepAll K fa G vs (ns.map T.bl) → vs = ns.map V.bl
  | _, [], h => by cases h; rfl
  | _, n :: ns, h => by
    cases h with
    | cons a b => cases a; rw [RepAll.bls b]; rfl
theorem RepAll.strs : ∀ {vs : List V} {ns : List Str}, RepAll K fa G vs (ns.map T.str) → vs = ns.map V.str
  | _, [], h => by cases h; rfl
  | _, n :: ns, h => by
    cases h with
    | cons a b => cases a; rw [RepAll.strs b]; rfl
end

/-! ### what a slot holds -/
/-- the content of an object that one slot alone knows -/
inductive OC where
  | lst (xs : List T) | dK (ks : List (Key × T)) | dT (ks : List (List Key × T))
inductive L where
  | un | t (x : T) | own (c : OC) | ref (i : Nat)
abbrev REnv := List L

section
variable (K : PySem.W.Frag) (fa : Nat → Addr)
def ORep (G : Hp) : HO → OC → Prop
  | .lst vs, .lst ts => RepAll K fa G vs ts
  | .dK vs, .dK ts => Paired (fun p q => p.1 = q.1 ∧ Rep K fa G p.2 q.2) vs ts
  | .dT vs, .dT ts => Paired (fun p q => p.1 = q.1 ∧ Rep K fa G p.2 q.2) vs ts
  | _, _ => False
/-- the addresses of the objects that slots own -/
def Cl (σ : L2.St) (ρ : REnv) (a : Addr) : Prop := ∃ (i : Nat) (c : OC), ρ[i]? = some (L.own c) ∧ σ[i]? = some (some (V.ref a))
structure EnvOk (G H : Hp) (σ : L2.St) (ρ : REnv) : Prop where
  same : Same G H
  len : ρ.length = σ.length
  t : ∀ (i : Nat) (x : T), ρ[i]? = some (L.t x) → ∃ v, σ[i]? = some (some v) ∧ Rep K fa G v x
  own : ∀ (i : Nat) (c : OC), ρ[i]? = some (L.own c) → ∃ a o, σ[i]? = some (some (V.ref a)) ∧ G a = none ∧ H a = some o ∧ ORep K fa G o c
  inj : ∀ (i j : Nat) (c c' : OC) (a : Addr), ρ[i]? = some (L.own c) → ρ[j]? = some (L.own c') → σ[i]? = some (some (V.ref a)) → σ[j]? = some (some (V.ref a)) → i = j
def LRep (G H : Hp) (C : Addr → Prop) (σ : L2.St) : V → L → Prop
  | _, .un => False
  | v, .t x => Rep K fa G v x
  | v, .own c => ∃ a o, v = .ref a ∧ G a = none ∧ ¬ C a ∧ H a = some o ∧ ORep K fa G o c
  | v, .ref i => σ[i]? = some (some v)
end
/-- a result that is an object of its own is new -/
def NewL (H : Hp) (v : V) : L → Prop
  | .own _ => ∀ a, v = .ref a → H a = none
  | _ => True
structure Aft (C C' : Addr → Prop) (G H G' H' : Hp) : Prop where
  gg : Same G G'
  keep : ∀ a o, H a = some o → ¬ C a → H' a = some o
  gn : ∀ a o, H a = some o → ¬ C a → G a = none → G' a = none
  there : ∀ a, H' a = none → H a = none
  cs : ∀ a, C' a → C a ∨ H a = none
theorem Aft.refl {C : Addr → Prop} {G H : Hp} : Aft C C G H G H := ⟨Same.refl _, fun _ _ h _ => h, fun _ _ _ _ h => h, fun _ h => h, fun _ h => .inl h⟩
theorem Aft.trans {C C1 C2 : Addr → Prop} {G H G1 H1 G2 H2 : Hp} (a : Aft C C1 G H G1 H1) (b : Aft C1 C2 G1 H1 G2 H2) : Aft C C2 G H G2 H2 := by
  have nc : ∀ p o, H p = some o → ¬ C p → ¬ C1 p := fun p o e n c => by
    rcases a.cs p c with z | z
    · exact n z
    · rw [e] at z; cases z
  refine ⟨a.gg.trans b.gg, fun p o e n => b.keep p o (a.keep p o e n) (nc p o e n), fun p o e n g => b.gn p o (a.keep p o e n) (nc p o e n) (a.gn p o e n g), fun p h => a.there p (b.there p h), fun p c => ?_⟩
  rcases b.cs p c with z | z
  · exact a.cs p z
  · exact .inr (a.there p z)
theorem Aft.ne {C C' : Addr → Prop} {G H G' H' : Hp} (a : Aft C C' G H G' H') {p : Addr} {o : HO} (e : H p = some o) (n : ¬ C p) : ¬ C' p := fun c => by
  rcases a.cs p c with z | z
  · exact n z
  · rw [e] at z; cases z

section
variable {K : PySem.W.Frag} {fa : Nat → Addr} {G G' H H' : Hp} {σ : L2.St} {ρ ρ' : REnv} {C C' : Addr → Prop}
theorem ORep.mono (s : Same G G') : ∀ {o : HO} {c : OC}, ORep K fa G o c → ORep K fa G' o c := by
  intro o c h
  cases o <;> cases c <;> first
    | exact (show False from h).elim
    | exact RepAll.mono s h
    | exact Paired.mapP h fun _ _ q => ⟨q.1, q.2.mono s⟩
theorem LRep.aft {v : V} {l : L} (h : LRep K fa G H C σ v l) (a : Aft C C' G H G' H') : LRep K fa G' H' C' σ v l := by
  cases l with
  | un => exact h
  | t x => exact Rep.mono a.gg h
  | own c =>
    obtain ⟨p, o, e, g, n, hh, r⟩ := h
    exact ⟨p, o, e, a.gn p o hh n g, a.ne hh n, a.keep p o hh n, r.mono a.gg⟩
  | ref i => exact h
theorem NewL.aft {v : V} {l : L} (h : NewL H' v l) (a : Aft C C' G H G' H') : NewL H v l := by
  cases l with
  | own c => exact fun p e => a.there p (h p e)
  | _ => trivial
theorem NewL.t {v : V} {x : T} : NewL H v (.t x) := trivial
/-- a new list becomes a tree: the frozen part grows by it -/
theorem frz {G0 H0 : Hp} {C0 : Addr → Prop} {v : V} {ts : List T} (E : EnvOk K fa G H σ ρ) (h : LRep K fa G H (Cl σ ρ) σ v (.own (.lst ts))) (nw : NewL H0 v (.own (.lst ts))) (a : Aft C0 (Cl σ ρ) G0 H0 G H) :
    ∃ G', EnvOk K fa G' H σ ρ ∧ Rep K fa G' v (.lst ts) ∧ Aft C0 (Cl σ ρ) G0 H0 G' H ∧ Same G G' ∧ ∀ b, v ≠ .ref b → G' b = G b := by
  obtain ⟨p, o, rfl, g, n, hh, r⟩ := h
  cases o with
  | lst vs =>
    have r : RepAll K fa G vs ts := r
    have sm : Same G (upd G p (.lst vs)) := fun b u e => by rw [upd_ne (ne_of_none e g)]; exact e
    refine ⟨upd G p (.lst vs), ⟨fun b u e => ?_, E.len, fun i x e => ?_, fun i c e => ?_, E.inj⟩, .lst upd_same (r.mono sm), ⟨a.gg.trans sm, a.keep, fun b u e nc gb => ?_, a.there, a.cs⟩, sm, fun b hb => ?_⟩
    · by_cases hb : b = p
      · subst hb; rw [upd_same] at e; cases e; exact hh
      · rw [upd_ne hb] at e; exact E.same b u e
    · obtain ⟨v, e1, e2⟩ := E.t i x e
      exact ⟨v, e1, e2.mono sm⟩
    · obtain ⟨q, u, e1, e2, e3, e4⟩ := E.own i c e
      refine ⟨q, u, e1, ?_, e3, e4.mono sm⟩
      rw [upd_ne (show q ≠ p from fun z => n (z ▸ ⟨i, c, e, e1⟩))]
      exact e2
    · have hb : b ≠ p := fun z => by subst z; rw [nw b rfl] at e; cases e
      rw [upd_ne hb]
      exact a.gn b u e nc gb
    · rw [upd_ne (fun z => hb (by rw [z]))]
  | _ => exact (show False from r).elim
end
/-- a result as a tree -/
def L.tree : L → Option T
  | .t x => some x
  | .own (.lst xs) => some (.lst xs)
  | _ => none
section
variable {K : PySem.W.Frag} {fa : Nat → Addr} {G G' H H' : Hp} {σ : L2.St} {ρ ρ' : REnv} {C C' : Addr → Prop}
theorem toTree {G0 H0 : Hp} {C0 : Addr → Prop} {v : V} {l : L} {x : T} (E : EnvOk K fa G H σ ρ) (h : LRep K fa G H (Cl σ ρ) σ v l) (nw : NewL H0 v l) (a : Aft C0 (Cl σ ρ) G0 H0 G H) (e : l.tree = some x) :
    ∃ G', EnvOk K fa G' H σ ρ ∧ Rep K fa G' v x ∧ Aft C0 (Cl σ ρ) G0 H0 G' H ∧ Same G G' ∧ ∀ b, (v ≠ .ref b ∨ ∃ y, l = .t y) → G' b = G b := by
  cases l with
  | t y => cases e; exact ⟨G, E, h, a, Same.refl _, fun _ _ => rfl⟩
  | own c =>
    cases c with
    | lst ts =>
      cases e
      obtain ⟨G', h1, h2, h3, h4, h5⟩ := frz E h nw a
      exact ⟨G', h1, h2, h3, h4, fun b hb => hb.elim (h5 b) fun ⟨y, z⟩ => by cases z⟩
    | _ => cases e
  | _ => cases e
/-- what a list operand holds -/
def L.lview (ρ : REnv) : L → Option (List T)
  | .t (.lst xs) => some xs
  | .own (.lst xs) => some xs
  | .ref i => match ρ[i]? with
    | some (.own (.lst xs)) => some xs
    | _ => none
  | _ => none
theorem lview_ok {v : V} {l : L} {xs : List T} (E : EnvOk K fa G H σ ρ) (h : LRep K fa G H C σ v l) (e : l.lview ρ = some xs) : ∃ a vs, v = .ref a ∧ H a = some (.lst vs) ∧ RepAll K fa G vs xs := by
  cases l with
  | un => cases e
  | t y =>
    cases y with
    | lst ys =>
      cases e
      cases (show Rep K fa G v _ from h) with
      | lst g r => exact ⟨_, _, rfl, E.same _ _ g, r⟩
    | _ => cases e
  | own c =>
    cases c with
    | lst ys =>
      cases e
      obtain ⟨p, o, rfl, g, n, hh, r⟩ := h
      cases o with
      | lst vs => exact ⟨p, vs, rfl, hh, r⟩
      | _ => exact (show False from r).elim
    | _ => cases e
  | ref i =>
    cases q : ρ[i]? with
    | none => simp only [L.lview, q] at e; cases e
    | some m =>
      simp only [L.lview, q] at e
      cases m with
      | own c =>
        cases c with
        | lst ys =>
          cases e
          obtain ⟨a, o, e1, e2, e3, e4⟩ := E.own i _ q
          have e5 : σ[i]? = some (some v) := h
          rw [e1] at e5; cases e5
          cases o with
          | lst vs => exact ⟨a, vs, rfl, e3, e4⟩
          | _ => exact (show False from e4).elim
        | _ => cases e
      | _ => cases e
/-- a result looked at as a tree, over the heap itself -/
def L.view (ρ : REnv) : L → Option T
  | .t x => some x
  | .own (.lst xs) => some (.lst xs)
  | .ref i => match ρ[i]? with
    | some (.own (.lst xs)) => some (.lst xs)
    | _ => none
  | _ => none
theorem view_ok {v : V} {l : L} {x : T} (E : EnvOk K fa G H σ ρ) (h : LRep K fa G H C σ v l) (e : l.view ρ = some x) : Rep K fa H v x := by
  cases l with
  | un => cases e
  | t y => cases e; exact Rep.mono E.same h
  | own c =>
    cases c with
    | lst ys =>
      cases e
      obtain ⟨a, vs, rfl, h1, h2⟩ := lview_ok (xs := ys) E h rfl
      exact .lst h1 (h2.mono E.same)
    | _ => cases e
  | ref i =>
    cases q : ρ[i]? with
    | none => simp only [L.view, q] at e; cases e
    | some m =>
      simp only [L.view, q] at e
      cases m with
      | own c =>
        cases c with
        | lst ys =>
          cases e
          obtain ⟨a, vs, rfl, h1, h2⟩ := lview_ok (xs := ys) E h (by simp only [L.lview, q])
          exact .lst h1 (h2.mono E.same)
        | _ => cases e
      | _ => cases e
end

/-! ### an expression's meaning -/
abbrev Den := REnv → Option (L × REnv)
/-- what is known behind an expression -/
structure Post (K : PySem.W.Frag) (fa : Nat → Addr) (G H : Hp) (σ : L2.St) (ρ : REnv) (l : L) (ρ' : REnv) (v : V) (G' H' : Hp) : Prop where
  aft : Aft (Cl σ ρ) (Cl σ ρ') G H G' H'
  env : EnvOk K fa G' H' σ ρ'
  rep : LRep K fa G' H' (Cl σ ρ') σ v l
  new : NewL H v l
def SE (X : Cx) (fa : Nat → Addr) (e : Expr) (d : Den) : Prop :=
  ∃ t : TE, PE X e t ∧ ∀ (σ : L2.St) (G H : Hp) (ρ : REnv) (l : L) (ρ' : REnv) (Q : VK), EnvOk X.K fa G H σ ρ → d ρ = some (l, ρ') →
    (∀ v G' H', Post X.K fa G H σ ρ l ρ' v G' H' → Q v H') → t σ H Q
end LW
namespace LW
open PySem PySem.Spec PyProof.Rows L2

/-! ### from a start -/
structure At (K : PySem.W.Frag) (fa : Nat → Addr) (C0 : Addr → Prop) (G0 H0 G H : Hp) (σ : L2.St) (ρ : REnv) : Prop where
  env : EnvOk K fa G H σ ρ
  aft : Aft C0 (Cl σ ρ) G0 H0 G H
section
variable {K : PySem.W.Frag} {fa : Nat → Addr} {C0 : Addr → Prop} {G0 H0 G H G' H' : Hp} {σ : L2.St} {ρ ρ' : REnv}
theorem At.start (E : EnvOk K fa G H σ ρ) : At K fa (Cl σ ρ) G H G H σ ρ := ⟨E, Aft.refl⟩
theorem At.noCl (A : At K fa C0 G0 H0 G H σ ρ) {p : Addr} (h : H p = none) : ¬ Cl σ ρ p := fun ⟨i, c, e1, e2⟩ => by
  obtain ⟨a, o, f1, f2, f3, f4⟩ := A.env.own i c e1
  rw [e2] at f1; cases f1
  rw [h] at f3; cases f3
theorem At.gnone (A : At K fa C0 G0 H0 G H σ ρ) {p : Addr} (h : H p = none) : G p = none := A.env.same.free h
theorem At.alloc (A : At K fa C0 G0 H0 G H σ ρ) {p : Addr} {o : HO} (h : H p = none) : At K fa C0 G0 H0 G (upd H p o) σ ρ := by
  have sm : Same H (upd H p o) := fun b u e => by rw [upd_ne (ne_of_none e h)]; exact e
  have nc := A.noCl h
  refine ⟨⟨A.env.same.trans sm, A.env.len, A.env.t, fun i c e => ?_, A.env.inj⟩, ⟨A.aft.gg, fun b u e n => sm _ _ (A.aft.keep b u e n), A.aft.gn, fun b e => ?_, A.aft.cs⟩⟩
  · obtain ⟨a, u, e1, e2, e3, e4⟩ := A.env.own i c e
    exact ⟨a, u, e1, e2, sm _ _ e3, e4⟩
  · by_cases hb : b = p
    · subst hb; rw [upd_same] at e; cases e
    · rw [upd_ne hb] at e; exact A.aft.there b e
theorem At.frz (A : At K fa C0 G0 H0 G H σ ρ) {p : Addr} {o : HO} (h : H p = some o) (g : G p = none) (n : ¬ Cl σ ρ p) (nw : H0 p = none) : At K fa C0 G0 H0 (upd G p o) H σ ρ := by
  have sm : Same G (upd G p o) := fun b u e => by rw [upd_ne (ne_of_none e g)]; exact e
  refine ⟨⟨fun b u e => ?_, A.env.len, fun i x e => ?_, fun i c e => ?_, A.env.inj⟩, ⟨A.aft.gg.trans sm, A.aft.keep, fun b u e nc gb => ?_, A.aft.there, A.aft.cs⟩⟩
  · by_cases hb : b = p
    · subst hb; rw [upd_same] at e; cases e; exact h
    · rw [upd_ne hb] at e; exact A.env.same b u e
  · obtain ⟨v, e1, e2⟩ := A.env.t i x e
    exact ⟨v, e1, e2.mono sm⟩
  · obtain ⟨q, u, e1, e2, e3, e4⟩ := A.env.own i c e
    refine ⟨q, u, e1, ?_, e3, e4.mono sm⟩
    rw [upd_ne (show q ≠ p from fun z => n (z ▸ ⟨i, c, e, e1⟩))]
    exact e2
  · rw [upd_ne (show b ≠ p from fun z => by subst z; rw [nw] at e; cases e)]
    exact A.aft.gn b u e nc gb
/-- a new tuple -/
theorem At.newTup (A : At K fa C0 G0 H0 G H σ ρ) {p : Addr} {vs : List V} {ts : List T} (h : H p = none) (r : RepAll K fa G vs ts) :
    At K fa C0 G0 H0 (upd G p (.tup vs)) (upd H p (.tup vs)) σ ρ ∧ Rep K fa (upd G p (.tup vs)) (.ref p) (.tup ts) := by
  have g := A.gnone h
  have sm : Same G (upd G p (.tup vs)) := fun b u e => by rw [upd_ne (ne_of_none e g)]; exact e
  exact ⟨(A.alloc h).frz upd_same g (A.noCl h) (A.aft.there p h), .tup (.of upd_same) (r.mono sm)⟩
/-- a new list -/
theorem At.newOwn (A : At K fa C0 G0 H0 G H σ ρ) {p : Addr} {o : HO} {c : OC} (h : H p = none) (r : ORep K fa G o c) :
    At K fa C0 G0 H0 G (upd H p o) σ ρ ∧ LRep K fa G (upd H p o) (Cl σ ρ) σ (.ref p) (.own c) ∧ NewL H0 (.ref p) (.own c) :=
  ⟨A.alloc h, ⟨p, o, rfl, A.gnone h, A.noCl h, upd_same, r⟩, fun a e => by cases e; exact A.aft.there p h⟩
theorem At.newLst (A : At K fa C0 G0 H0 G H σ ρ) {p : Addr} {vs : List V} {ts : List T} (h : H p = none) (r : RepAll K fa G vs ts) :
    At K fa C0 G0 H0 G (upd H p (.lst vs)) σ ρ ∧ LRep K fa G (upd H p (.lst vs)) (Cl σ ρ) σ (.ref p) (.own (.lst ts)) ∧ NewL H0 (.ref p) (.own (.lst ts)) := A.newOwn (c := .lst ts) h r
end

/-- two operands at hand -/
structure Ops2 (K : PySem.W.Frag) (fa : Nat → Addr) (C0 : Addr → Prop) (G0 H0 G H : Hp) (σ : L2.St) (ρ : REnv) (v1 : V) (l1 : L) (v2 : V) (l2 : L) : Prop extends At K fa C0 G0 H0 G H σ ρ where
  r1 : LRep K fa G H (Cl σ ρ) σ v1 l1
  n1 : NewL H0 v1 l1
  r2 : LRep K fa G H (Cl σ ρ) σ v2 l2
  n2 : NewL H0 v2 l2
structure Ops1 (K : PySem.W.Frag) (fa : Nat → Addr) (C0 : Addr → Prop) (G0 H0 G H : Hp) (σ : L2.St) (ρ : REnv) (v1 : V) (l1 : L) : Prop extends At K fa C0 G0 H0 G H σ ρ where
  r1 : LRep K fa G H (Cl σ ρ) σ v1 l1
  n1 : NewL H0 v1 l1
/-- what a rule for two operands has to give -/
def OpT (K : PySem.W.Frag) (fa : Nat → Addr) (r : R2) (g : REnv → L → L → Option L) : Prop :=
  ∀ (C0 : Addr → Prop) (G0 H0 G H : Hp) (σ : L2.St) (ρ : REnv) (v1 v2 : V) (l1 l2 l : L) (Q : VK), Ops2 K fa C0 G0 H0 G H σ ρ v1 l1 v2 l2 → g ρ l1 l2 = some l →
    (∀ v G' H', Ops1 K fa C0 G0 H0 G' H' σ ρ v l → Q v H') → r v1 v2 H Q
def UnT (K : PySem.W.Frag) (fa : Nat → Addr) (r : V → Hp → VK → Prop) (g : REnv → L → Option L) : Prop :=
  ∀ (C0 : Addr → Prop) (G0 H0 G H : Hp) (σ : L2.St) (ρ : REnv) (v1 : V) (l1 l : L) (Q : VK), Ops1 K fa C0 G0 H0 G H σ ρ v1 l1 → g ρ l1 = some l →
    (∀ v G' H', Ops1 K fa C0 G0 H0 G' H' σ ρ v l → Q v H') → r v1 H Q

def den1 (g : REnv → L → Option L) (d : Den) : Den := fun ρ => (d ρ).bind fun p => (g p.2 p.1).map fun l => (l, p.2)
def den2 (g : REnv → L → L → Option L) (d1 d2 : Den) : Den := fun ρ => (d1 ρ).bind fun p => (d2 p.2).bind fun q => (g q.2 p.1 q.1).map fun l => (l, q.2)

section
variable {X : Cx} {fa : Nat → Addr} {e a b c : Expr} {d d1 d2 : Den}
theorem Post.ops1 {K : PySem.W.Frag} {G H G' H' : Hp} {σ : L2.St} {ρ ρ' : REnv} {l : L} {v : V} (p : Post K fa G H σ ρ l ρ' v G' H') : Ops1 K fa (Cl σ ρ) G H G' H' σ ρ' v l := ⟨⟨p.env, p.aft⟩, p.rep, p.new⟩
theorem Ops1.post {K : PySem.W.Frag} {G H G' H' : Hp} {σ : L2.St} {ρ ρ' : REnv} {l : L} {v : V} (p : Ops1 K fa (Cl σ ρ) G H G' H' σ ρ' v l) : Post K fa G H σ ρ l ρ' v G' H' := ⟨p.aft, p.env, p.r1, p.n1⟩
/-- a second expression behind a first one -/
theorem Post.then2 {K : PySem.W.Frag} {G H G1 H1 G2 H2 : Hp} {σ : L2.St} {ρ ρ1 ρ2 : REnv} {l1 l2 : L} {v1 v2 : V} (p : Post K fa G H σ ρ l1 ρ1 v1 G1 H1) (q : Post K fa G1 H1 σ ρ1 l2 ρ2 v2 G2 H2) :
    Ops2 K fa (Cl σ ρ) G H G2 H2 σ ρ2 v1 l1 v2 l2 := ⟨⟨q.env, p.aft.trans q.aft⟩, p.rep.aft q.aft, p.new, q.rep, q.new.aft p.aft⟩
theorem SE.un {r : V → Hp → VK → Prop} {g : REnv → L → Option L} (h1 : SE X fa a d) (hp : ∀ ta, PE X a ta → PE X e (tUn r ta)) (ho : UnT X.K fa r g) : SE X fa e (den1 g d) := by
  obtain ⟨ta, pa, ra⟩ := h1
  refine ⟨_, hp ta pa, fun σ G H ρ l ρ' Q E hd k => ?_⟩
  cases q : d ρ with
  | none => simp [den1, q] at hd
  | some p =>
    cases q2 : g p.2 p.1 with
    | none => simp [den1, q, q2] at hd
    | some l' =>
      simp [den1, q, q2] at hd
      obtain ⟨rfl, rfl⟩ := hd
      refine ra σ G H ρ p.1 p.2 _ E q fun v1 G1 H1 P1 => ?_
      exact ho _ _ _ _ _ _ _ _ _ _ _ P1.ops1 q2 fun v G' H' R => k v G' H' R.post
theorem SE.two {r : R2} {g : REnv → L → L → Option L} (h1 : SE X fa a d1) (h2 : SE X fa b d2) (hp : ∀ ta tb, PE X a ta → PE X b tb → PE X e (tOp r ta tb)) (ho : OpT X.K fa r g) : SE X fa e (den2 g d1 d2) := by
  obtain ⟨ta, pa, ra⟩ := h1
  obtain ⟨tb, pb, rb⟩ := h2
  refine ⟨_, hp ta tb pa pb, fun σ G H ρ l ρ' Q E hd k => ?_⟩
  cases q : d1 ρ with
  | none => simp [den2, q] at hd
  | some p =>
    cases q1 : d2 p.2 with
    | none => simp [den2, q, q1] at hd
    | some p' =>
      cases q2 : g p'.2 p.1 p'.1 with
      | none => simp [den2, q, q1, q2] at hd
      | some l' =>
        simp [den2, q, q1, q2] at hd
        obtain ⟨rfl, rfl⟩ := hd
        refine ra σ G H ρ p.1 p.2 _ E q fun v1 G1 H1 P1 => ?_
        refine rb σ G1 H1 p.2 p'.1 p'.2 _ P1.env q1 fun v2 G2 H2 P2 => ?_
        exact ho _ _ _ _ _ _ _ _ _ _ _ _ _ (P1.then2 P2) q2 fun v G' H' R => k v G' H' R.post
end

/-! ### scalars handed back -/
section
variable {K : PySem.W.Frag} {fa : Nat → Addr} {C0 : Addr → Prop} {G0 H0 G H : Hp} {σ : L2.St} {ρ : REnv}
theorem At.int (A : At K fa C0 G0 H0 G H σ ρ) (i : Int) : Ops1 K fa C0 G0 H0 G H σ ρ (.int i) (.t (.int i)) := ⟨A, Rep.int i, trivial⟩
theorem At.bl (A : At K fa C0 G0 H0 G H σ ρ) (i : Bool) : Ops1 K fa C0 G0 H0 G H σ ρ (.bl i) (.t (.bl i)) := ⟨A, Rep.bl i, trivial⟩
theorem At.str (A : At K fa C0 G0 H0 G H σ ρ) (i : Str) : Ops1 K fa C0 G0 H0 G H σ ρ (.str i) (.t (.str i)) := ⟨A, Rep.str i, trivial⟩
theorem At.non (A : At K fa C0 G0 H0 G H σ ρ) : Ops1 K fa C0 G0 H0 G H σ ρ .non (.t .non) := ⟨A, Rep.non, trivial⟩
theorem At.tr (A : At K fa C0 G0 H0 G H σ ρ) {v : V} {x : T} (r : Rep K fa G v x) : Ops1 K fa C0 G0 H0 G H σ ρ v (.t x) := ⟨A, r, trivial⟩
theorem At.lstR (A : At K fa C0 G0 H0 G H σ ρ) {p : Addr} {vs : List V} {ts : List T} (h : H p = none) (r : RepAll K fa G vs ts) : Ops1 K fa C0 G0 H0 G (upd H p (.lst vs)) σ ρ (.ref p) (.own (.lst ts)) :=
  let ⟨a, b, c⟩ := A.newLst h r; ⟨a, b, c⟩
theorem At.tupR (A : At K fa C0 G0 H0 G H σ ρ) {p : Addr} {vs : List V} {ts : List T} (h : H p = none) (r : RepAll K fa G vs ts) : Ops1 K fa C0 G0 H0 (upd G p (.tup vs)) (upd H p (.tup vs)) σ ρ (.ref p) (.t (.tup ts)) :=
  let ⟨a, b⟩ := A.newTup h r; ⟨a, b, trivial⟩
end
theorem Rep.int_inv {K : PySem.W.Frag} {fa : Nat → Addr} {G : Hp} {v : V} {i : Int} (h : Rep K fa G v (.int i)) : v = .int i := by cases h; rfl
theorem Rep.bl_inv {K : PySem.W.Frag} {fa : Nat → Addr} {G : Hp} {v : V} {i : Bool} (h : Rep K fa G v (.bl i)) : v = .bl i := by cases h; rfl
theorem Rep.str_inv {K : PySem.W.Frag} {fa : Nat → Addr} {G : Hp} {v : V} {i : Str} (h : Rep K fa G v (.str i)) : v = .str i := by cases h; rfl
theorem Rep.non_inv {K : PySem.W.Frag} {fa : Nat → Addr} {G : Hp} {v : V} (h : Rep K fa G v .non) : v = .non := by cases h; rfl

/-! ### + -/
def line : Nat := 16777216
theorem line_eq : line = sizeLine := sizeLine_eq.symm
def gCat (ρ : REnv) (l1 l2 : L) : Option L :=
  match l1.lview ρ, l2.lview ρ with
  | some xs, some ys => if xs.length + ys.length ≤ line then some (.own (.lst (xs ++ ys))) else none
  | _, _ => none
def gAdd (ρ : REnv) (l1 l2 : L) : Option L :=
  match l1, l2 with
  | .t (.int i), .t (.int j) => some (.t (.int (i + j)))
  | .t (.str i), .t (.str j) => if i.length + j.length ≤ line then some (.t (.str (i ++ j))) else none
  | .t (.tup xs), .t (.tup ys) => if xs.length + ys.length ≤ line then some (.t (.tup (xs ++ ys))) else none
  | _, _ => gCat ρ l1 l2
def rAddT (K : PySem.W.Frag) : R2 := fun x y H Q => (rI0 (fun i j => .int (i + j)) x y H Q ∨ (∃ i j, x = .str i ∧ y = .str j ∧ i.length + j.length ≤ sizeLine ∧ Q (.str (i ++ j)) H)) ∨ (rCat x y H Q ∨ rCatA K x y H Q)
theorem op_addT {X : Cx} : OpR X (binaryOp .Add) (rAddT X.K) := (op_add.or op_add_str).or (op_cat.or op_catA)
section
variable {K : PySem.W.Frag} {fa : Nat → Addr}
theorem gCat_ok {C0 : Addr → Prop} {G0 H0 G H : Hp} {σ : L2.St} {ρ : REnv} {v1 v2 : V} {l1 l2 l : L} {Q : VK} (O : Ops2 K fa C0 G0 H0 G H σ ρ v1 l1 v2 l2) (e : gCat ρ l1 l2 = some l)
    (k : ∀ v G' H', Ops1 K fa C0 G0 H0 G' H' σ ρ v l → Q v H') : rCat v1 v2 H Q := by
  unfold gCat at e
  split at e
  · rename_i xs ys e1 e2
    split at e
    · rename_i hz
      cases e
      obtain ⟨p, vs, rfl, hp, rp⟩ := lview_ok O.env O.r1 e1
      obtain ⟨q, ws, rfl, hq, rq⟩ := lview_ok O.env O.r2 e2
      refine ⟨p, q, vs, ws, rfl, rfl, hp, hq, by rw [rp.length, rq.length, ← line_eq]; exact hz, fun a na => ?_⟩
      exact k _ _ _ (O.toAt.lstR na (rp.append rq))
    · cases e
  · cases e
theorem opt_add : OpT K fa (rAddT K) gAdd := by
  intro C0 G0 H0 G H σ ρ v1 v2 l1 l2 l Q O e k
  unfold gAdd at e
  split at e
  · cases e
    have e1 := Rep.int_inv O.r1
    have e2 := Rep.int_inv O.r2
    exact .inl (.inl ⟨_, _, e1, e2, k _ _ _ (O.toAt.int _)⟩)
  · split at e
    · rename_i hz
      cases e
      have e1 := Rep.str_inv O.r1
      have e2 := Rep.str_inv O.r2
      exact .inl (.inr ⟨_, _, e1, e2, by rw [← line_eq]; exact hz, k _ _ _ (O.toAt.str _)⟩)
    · cases e
  · split at e
    · rename_i xs ys hz
      cases e
      refine .inr (.inr ?_)
      have h1 := O.r1
      have h2 := O.r2
      cases (show Rep K fa G v1 _ from h1) with
      | tup s1 a1 =>
        cases (show Rep K fa G v2 _ from h2) with
        | tup s2 a2 =>
          rename_i a vs b ws
          refine ⟨a, b, vs, ws, rfl, rfl, same_sqT O.env.same s1, same_sqT O.env.same s2, by rw [a1.length, a2.length, ← line_eq]; exact hz, fun hx => ?_, fun _ hy => ?_, fun _ _ p hp => ?_⟩
          · have : xs = [] := by
              have := a1.length
              rw [hx] at this
              exact List.length_eq_zero_iff.mp this.symm
            subst this
            exact k _ _ _ (O.toAt.tr (.tup s2 a2))
          · have : ys = [] := by
              have := a2.length
              rw [hy] at this
              exact List.length_eq_zero_iff.mp this.symm
            subst this
            rw [List.append_nil] at k
            exact k _ _ _ (O.toAt.tr (.tup s1 a1))
          · exact k _ _ _ (O.toAt.tupR hp (a1.append a2))
    · cases e
  · exact .inr (.inl (gCat_ok O e k))
end
theorem SE.add {X : Cx} {fa : Nat → Addr} {a b : Expr} {d1 d2 : Den} {pos : Pos} (h1 : SE X fa a d1) (h2 : SE X fa b d2) : SE X fa (.BinOp a .Add b pos) (den2 gAdd d1 d2) :=
  h1.two h2 (fun _ _ pa pb => pe_op op_addT pa pb) opt_add

/-! ### -, *, //, %, ** -/
def gSub (_ : REnv) (l1 l2 : L) : Option L :=
  match l1, l2 with
  | .t (.int i), .t (.int j) => some (.t (.int (i - j)))
  | _, _ => none
theorem opt_sub {K : PySem.W.Frag} {fa : Nat → Addr} : OpT K fa (rI0 fun i j => .int (i - j)) gSub := by
  intro C0 G0 H0 G H σ ρ v1 v2 l1 l2 l Q O e k
  unfold gSub at e
  split at e
  · cases e
    exact ⟨_, _, Rep.int_inv O.r1, Rep.int_inv O.r2, k _ _ _ (O.toAt.int _)⟩
  · cases e
theorem SE.sub {X : Cx} {fa : Nat → Addr} {a b : Expr} {d1 d2 : Den} {pos : Pos} (h1 : SE X fa a d1) (h2 : SE X fa b d2) : SE X fa (.BinOp a .Sub b pos) (den2 gSub d1 d2) :=
  h1.two h2 (fun _ _ pa pb => pe_op op_sub pa pb) opt_sub

def mulOk (i j : Int) : Bool := (decide (-(18446744073709551616) < i) && decide (i < 18446744073709551616)) || (decide (-(18446744073709551616) < j) && decide (j < 18446744073709551616)) || decide (i.natAbs.log2 + j.natAbs.log2 < 1000000)
theorem mulOk_spec {i j : Int} (h : mulOk i j = true) : CMul i j ∨ CMulW i j := by
  simp only [mulOk, Bool.or_eq_true, Bool.and_eq_true, decide_eq_true_eq] at h
  rcases h with (h | h) | h
  · exact .inl (.inl ⟨by omega, by omega⟩)
  · exact .inl (.inr ⟨by omega, by omega⟩)
  · exact .inr h
def gMul (ρ : REnv) (l1 l2 : L) : Option L :=
  match l1, l2 with
  | .t (.int i), .t (.int j) => if mulOk i j then some (.t (.int (i * j))) else none
  | _, .t (.int k) => match l1.lview ρ with
    | some xs => if decide (-(9223372036854775808) ≤ k) && decide (k < 9223372036854775808) && decide (xs.length * k.toNat ≤ line) then some (.own (.lst (List.replicate k.toNat xs).flatten)) else none
    | none => none
  | _, _ => none
def rMulT : R2 := fun x y H Q => (rI CMul (fun i j => .int (i * j)) x y H Q ∨ rI CMulW (fun i j => .int (i * j)) x y H Q) ∨ rRep x y H Q
theorem op_mulT {X : Cx} : OpR X (binaryOp .Mult) rMulT := (op_mul.or op_mulW).or op_rep
theorem opt_mul {K : PySem.W.Frag} {fa : Nat → Addr} : OpT K fa rMulT gMul := by
  intro C0 G0 H0 G H σ ρ v1 v2 l1 l2 l Q O e k
  unfold gMul at e
  split at e
  · split at e
    · rename_i hm
      cases e
      refine .inl ?_
      rcases mulOk_spec hm with hm | hm
      · exact .inl ⟨_, _, Rep.int_inv O.r1, Rep.int_inv O.r2, hm, k _ _ _ (O.toAt.int _)⟩
      · exact .inr ⟨_, _, Rep.int_inv O.r1, Rep.int_inv O.r2, hm, k _ _ _ (O.toAt.int _)⟩
    · cases e
  · split at e
    · rename_i xs e1
      split at e
      · rename_i hz
        cases e
        simp only [Bool.and_eq_true, decide_eq_true_eq] at hz
        obtain ⟨p, vs, rfl, hp, rp⟩ := lview_ok O.env O.r1 e1
        refine .inr ⟨p, _, vs, rfl, Rep.int_inv O.r2, hp, by omega, by omega, by rw [rp.length, ← line_eq]; exact hz.2, fun a na => ?_⟩
        exact k _ _ _ (O.toAt.lstR na (rp.flatten_rep _))
      · cases e
    · cases e
  · cases e
theorem SE.mul {X : Cx} {fa : Nat → Addr} {a b : Expr} {d1 d2 : Den} {pos : Pos} (h1 : SE X fa a d1) (h2 : SE X fa b d2) : SE X fa (.BinOp a .Mult b pos) (den2 gMul d1 d2) :=
  h1.two h2 (fun _ _ pa pb => pe_op op_mulT pa pb) opt_mul

def gMod (_ : REnv) (l1 l2 : L) : Option L :=
  match l1, l2 with
  | .t (.int i), .t (.int j) => if 0 < j then some (.t (.int (i % j))) else none
  | _, _ => none
theorem opt_mod {K : PySem.W.Frag} {fa : Nat → Addr} : OpT K fa (rI (fun _ j => 0 < j) fun i j => .int (i % j)) gMod := by
  intro C0 G0 H0 G H σ ρ v1 v2 l1 l2 l Q O e k
  unfold gMod at e
  split at e
  · split at e
    · rename_i h
      cases e
      exact ⟨_, _, Rep.int_inv O.r1, Rep.int_inv O.r2, h, k _ _ _ (O.toAt.int _)⟩
    · cases e
  · cases e
theorem SE.mod {X : Cx} {fa : Nat → Addr} {a b : Expr} {d1 d2 : Den} {pos : Pos} (h1 : SE X fa a d1) (h2 : SE X fa b d2) : SE X fa (.BinOp a .Mod b pos) (den2 gMod d1 d2) :=
  h1.two h2 (fun _ _ pa pb => pe_op op_mod pa pb) opt_mod

def gDiv (_ : REnv) (l1 l2 : L) : Option L :=
  match l1, l2 with
  | .t (.int i), .t (.int j) => if decide (0 < j) && decide (j < 1073741824) then some (.t (.int (i / j))) else none
  | _, _ => none
theorem opt_div {K : PySem.W.Frag} {fa : Nat → Addr} : OpT K fa (rI CDiv fun i j => .int (i / j)) gDiv := by
  intro C0 G0 H0 G H σ ρ v1 v2 l1 l2 l Q O e k
  unfold gDiv at e
  split at e
  · split at e
    · rename_i h
      cases e
      simp only [Bool.and_eq_true, decide_eq_true_eq] at h
      exact ⟨_, _, Rep.int_inv O.r1, Rep.int_inv O.r2, h, k _ _ _ (O.toAt.int _)⟩
    · cases e
  · cases e
theorem SE.div {X : Cx} {fa : Nat → Addr} {a b : Expr} {d1 d2 : Den} {pos : Pos} (h1 : SE X fa a d1) (h2 : SE X fa b d2) : SE X fa (.BinOp a .FloorDiv b pos) (den2 gDiv d1 d2) :=
  h1.two h2 (fun _ _ pa pb => pe_op op_fdiv pa pb) opt_div

def gPow (_ : REnv) (l1 l2 : L) : Option L :=
  match l1, l2 with
  | .t (.int i), .t (.int j) => if decide (0 ≤ j) && decide (j ≤ 1000000) && decide (i.natAbs < 18446744073709551616) then some (.t (.int (i ^ j.toNat))) else none
  | _, _ => none
theorem opt_pow {K : PySem.W.Frag} {fa : Nat → Addr} : OpT K fa (rI CPow fun i j => .int (i ^ j.toNat)) gPow := by
  intro C0 G0 H0 G H σ ρ v1 v2 l1 l2 l Q O e k
  unfold gPow at e
  split at e
  · split at e
    · rename_i h
      cases e
      simp only [Bool.and_eq_true, decide_eq_true_eq] at h
      exact ⟨_, _, Rep.int_inv O.r1, Rep.int_inv O.r2, ⟨h.1.1, h.1.2, by have := h.2; omega⟩, k _ _ _ (O.toAt.int _)⟩
    · cases e
  · cases e
theorem SE.pow {X : Cx} {fa : Nat → Addr} {a b : Expr} {d1 d2 : Den} {pos : Pos} (h1 : SE X fa a d1) (h2 : SE X fa b d2) : SE X fa (.BinOp a .Pow b pos) (den2 gPow d1 d2) :=
  h1.two h2 (fun _ _ pa pb => pe_op op_pow pa pb) opt_pow

def gNeg (_ : REnv) (l1 : L) : Option L :=
  match l1 with
  | .t (.int i) => some (.t (.int (-i)))
  | _ => none
theorem unt_neg {K : PySem.W.Frag} {fa : Nat → Addr} : UnT K fa (rU fun i => .int (-i)) gNeg := by
  intro C0 G0 H0 G H σ ρ v1 l1 l Q O e k
  unfold gNeg at e
  split at e
  · cases e
    exact ⟨_, Rep.int_inv O.r1, k _ _ _ (O.toAt.int _)⟩
  · cases e
theorem SE.neg {X : Cx} {fa : Nat → Addr} {a : Expr} {d1 : Den} {pos : Pos} (h1 : SE X fa a d1) : SE X fa (.UnaryOp .USub a pos) (den1 gNeg d1) :=
  h1.un (fun _ pa => pe_un un_neg pa) unt_neg
end LW
namespace LW
open PySem PySem.Spec PyProof.Rows L2

section
variable {X : Cx} {fa : Nat → Addr} {e a b c : Expr} {es : List Expr} {d d1 d2 d3 : Den} {pos : Pos}

/-! ### names, constants -/
/-- the value of a slot: a tree, or a slot's own object by its place -/
def gVar (i : Nat) : Den := fun ρ => match ρ[i]? with
  | some (.t x) => some (.t x, ρ)
  | some (.own _) => some (.ref i, ρ)
  | _ => none
theorem SE.var {i : Nat} {x : Str} (hN : X.N[i]? = some x) (hv : Vis X.env.scope x) (hd : (x == ("__debug__" : Str)) = false) (hcd : (x == ("__classdict__" : Str)) = false) : SE X fa (.Name x pos) (gVar i) := by
  refine ⟨_, pe_var hN hv hd hcd, fun σ G H ρ l ρ' Q E hd k => ?_⟩
  unfold gVar at hd
  split at hd
  · rename_i y q
    cases hd
    obtain ⟨v, e1, e2⟩ := E.t i y q
    exact ⟨v, e1, k v G H ⟨Aft.refl, E, e2, trivial⟩⟩
  · rename_i c q
    cases hd
    obtain ⟨a, o, e1, e2⟩ := E.own i c q
    exact ⟨_, e1, k _ G H ⟨Aft.refl, E, e1, trivial⟩⟩
  · cases hd
def gC (x : T) : Den := fun ρ => some (.t x, ρ)
theorem SE.const {v : V} {x : T} (hp : PE X e (tC v)) (hr : ∀ G, Rep X.K fa G v x) : SE X fa e (gC x) :=
  ⟨_, hp, fun σ G H ρ l ρ' Q E hd k => by cases hd; exact k v G H ⟨Aft.refl, E, hr G, trivial⟩⟩
theorem SE.int {i : Int} {j : Nat} : SE X fa (.Constant (.int i) j pos) (gC (.int i)) := .const pe_int fun _ => .int i
theorem SE.bl {i : Bool} {j : Nat} : SE X fa (.Constant (.bool i) j pos) (gC (.bl i)) := .const pe_bl fun _ => .bl i
theorem SE.non {j : Nat} : SE X fa (.Constant .none j pos) (gC .non) := .const pe_non fun _ => .non
theorem SE.str {x : Str} {j : Nat} : SE X fa (.Constant (.str x) j pos) (gC (.str x)) := .const pe_str fun _ => .str x
/-- a module's name -/
theorem SE.glob {x : Str} {v : V} {u : Value} {y : T} (hg : Gl X x) (hm : X.mg x = some u) (r : RelV v u) (hd : (x == ("__debug__" : Str)) = false) (hr : ∀ G, Rep X.K fa G v y) : SE X fa (.Name x pos) (gC y) := .const (pe_glob hg hm r hd) hr

/-! ### a or b by cases: if -/
def ST (X : Cx) (fa : Nat → Addr) (e : Expr) (d : REnv → Option (Bool × REnv)) : Prop :=
  ∃ t : TT, PT X e t ∧ ∀ (σ : L2.St) (G H : Hp) (ρ : REnv) (b : Bool) (ρ' : REnv) (Q : Bool → Hp → Prop), EnvOk X.K fa G H σ ρ → d ρ = some (b, ρ') →
    (∀ G' H', At X.K fa (Cl σ ρ) G H G' H' σ ρ' → Q b H') → t σ H Q
abbrev DenT := REnv → Option (Bool × REnv)
def L.asBl : L → Option Bool
  | .t (.bl b) => some b
  | _ => none
/-- a value's truth -/
def L.truth (ρ : REnv) (l : L) : Option Bool :=
  match l with
  | .t .non => some false
  | .t (.bl b) => some b
  | .t (.int i) => some (i != 0)
  | .t (.str y) => if y.length ≤ line then some ((y.length : Int) != 0) else none
  | .t (.tup xs) => some (!xs.isEmpty)
  | l => (l.lview ρ).map fun xs => !xs.isEmpty
theorem isEmpty_rep {K : PySem.W.Frag} {G : Hp} {vs : List V} {ts : List T} (h : RepAll K fa G vs ts) : vs.isEmpty = ts.isEmpty := by
  cases h <;> rfl
theorem truth_ok {K : PySem.W.Frag} {G H : Hp} {C : Addr → Prop} {σ : L2.St} {ρ : REnv} {v : V} {l : L} {b : Bool} (E : EnvOk K fa G H σ ρ) (r : LRep K fa G H C σ v l) (h : l.truth ρ = some b) : TruV K v H b := by
  unfold L.truth at h
  split at h
  · cases h; rw [Rep.non_inv r]; rfl
  · cases h; rw [Rep.bl_inv r]; rfl
  · cases h; rw [Rep.int_inv r]; rfl
  · split at h
    · rename_i y hz
      cases h; rw [Rep.str_inv r]; exact ⟨by rw [← line_eq]; exact hz, rfl⟩
    · cases h
  · cases h
    cases (show Rep K fa G v _ from r) with
    | tup s a => exact .inr (.inl ⟨_, same_sqT E.same s, by rw [isEmpty_rep a]⟩)
  · cases q : l.lview ρ with
    | none => simp [q] at h
    | some xs =>
      simp [q] at h
      obtain ⟨p, vs, rfl, hp, rp⟩ := lview_ok E r q
      exact .inl ⟨vs, .of hp, by rw [isEmpty_rep rp, h, Bool.not_not]⟩
def dTru (d : Den) : DenT := fun ρ => (d ρ).bind fun p => (p.1.truth p.2).map fun b => (b, p.2)
theorem SE.truth (h : SE X fa a d) (he : ∀ whole, isTrue a X.env whole = (do let v ← whole; standAt a.pos; holding [v] (truthy v))) : ST X fa a (dTru d) := by
  obtain ⟨t, p, r⟩ := h
  refine ⟨_, pt_truth p he, fun σ G H ρ b ρ' Q E hd k => ?_⟩
  cases q : d ρ with
  | none => simp [dTru, q] at hd
  | some z =>
    cases q2 : z.1.truth z.2 with
    | none => simp [dTru, q, q2] at hd
    | some b' =>
      simp [dTru, q, q2] at hd
      obtain ⟨rfl, rfl⟩ := hd
      exact r σ G H ρ z.1 z.2 _ E q fun v G' H' P => ⟨_, truth_ok P.env P.rep q2, k G' H' ⟨P.env, P.aft⟩⟩
/-- an expression whose value is a bool, as a test by tTest -/
def dBl (d : Den) : DenT := fun ρ => (d ρ).bind fun p => p.1.asBl.map fun b => (b, p.2)
theorem asBl_inv {l : L} {b : Bool} (h : l.asBl = some b) : l = .t (.bl b) := by
  unfold L.asBl at h
  split at h
  · cases h; rfl
  · cases h
/-! ### comparisons -/
/-- two operands and a rule for a comparison: as a value and as a test; nothing changes -/
def CmT (K : PySem.W.Frag) (fa : Nat → Addr) (r : R2) (g : REnv → L → L → Option Bool) : Prop :=
  ∀ (C0 : Addr → Prop) (G0 H0 G H : Hp) (σ : L2.St) (ρ : REnv) (v1 v2 : V) (l1 l2 : L) (b : Bool) (Q : VK), Ops2 K fa C0 G0 H0 G H σ ρ v1 l1 v2 l2 → g ρ l1 l2 = some b → Q (.bl b) H → r v1 v2 H Q
structure CmpR (X : Cx) (fa : Nat → Addr) (op : CmpOp) (g : REnv → L → L → Option Bool) : Prop where
  ex : ∃ r : R2, OpR X (compareOp op) r ∧ CmT X.K fa r g
def gB (g : REnv → L → L → Option Bool) : REnv → L → L → Option L := fun ρ l1 l2 => (g ρ l1 l2).map fun b => .t (.bl b)
theorem CmT.opt {K : PySem.W.Frag} {r : R2} {g : REnv → L → L → Option Bool} (h : CmT K fa r g) : OpT K fa r (gB g) := by
  intro C0 G0 H0 G H σ ρ v1 v2 l1 l2 l Q O e k
  cases q : g ρ l1 l2 with
  | none => simp [gB, q] at e
  | some b =>
    simp [gB, q] at e
    subst e
    exact h _ _ _ _ _ _ _ _ _ _ _ _ _ O q (k _ _ _ (O.toAt.bl b))
theorem SE.cmp {op : CmpOp} {g : REnv → L → L → Option Bool} (h1 : SE X fa a d1) (h2 : SE X fa b d2) (hc : CmpR X fa op g) (hm : behindInMarks op b = false) : SE X fa (.Compare a [op] [b] pos) (den2 (gB g) d1 d2) := by
  obtain ⟨r, p, q⟩ := hc.ex
  exact h1.two h2 (fun _ _ pa pb => pe_cmpR p pa pb hm) q.opt
abbrev Rd1 (X : Cx) (fa : Nat → Addr) (t : TE) (d : Den) : Prop := ∀ (σ : L2.St) (G H : Hp) (ρ : REnv) (l : L) (ρ' : REnv) (Q : VK), EnvOk X.K fa G H σ ρ → d ρ = some (l, ρ') → (∀ v G' H', Post X.K fa G H σ ρ l ρ' v G' H' → Q v H') → t σ H Q
theorem two_read {t1 t2 : TE} {r : R2} {g : REnv → L → L → Option L} (ra : Rd1 X fa t1 d1) (rb : Rd1 X fa t2 d2) (ho : OpT X.K fa r g) : Rd1 X fa (tOp r t1 t2) (den2 g d1 d2) := by
  intro σ G H ρ l ρ' Q E hd k
  cases q : d1 ρ with
  | none => simp [den2, q] at hd
  | some p =>
    cases q1 : d2 p.2 with
    | none => simp [den2, q, q1] at hd
    | some p' =>
      cases q2 : g p'.2 p.1 p'.1 with
      | none => simp [den2, q, q1, q2] at hd
      | some l' =>
        simp [den2, q, q1, q2] at hd
        obtain ⟨rfl, rfl⟩ := hd
        refine ra σ G H ρ p.1 p.2 _ E q fun v1 G1 H1 P1 => ?_
        refine rb σ G1 H1 p.2 p'.1 p'.2 _ P1.env q1 fun v2 G2 H2 P2 => ?_
        exact ho _ _ _ _ _ _ _ _ _ _ _ _ _ (P1.then2 P2) q2 fun v G' H' R => k v G' H' R.post
theorem test_read {t : TE} (r : Rd1 X fa t d) : ∀ (σ : L2.St) (G H : Hp) (ρ : REnv) (b : Bool) (ρ' : REnv) (Q : Bool → Hp → Prop), EnvOk X.K fa G H σ ρ → dBl d ρ = some (b, ρ') →
    (∀ G' H', At X.K fa (Cl σ ρ) G H G' H' σ ρ' → Q b H') → tTest t σ H Q := by
  intro σ G H ρ b ρ' Q E hd k
  cases q : d ρ with
  | none => simp [dBl, q] at hd
  | some z =>
    cases q2 : z.1.asBl with
    | none => simp [dBl, q, q2] at hd
    | some b' =>
      simp [dBl, q, q2] at hd
      obtain ⟨rfl, rfl⟩ := hd
      refine r σ G H ρ z.1 z.2 _ E q fun v G' H' P => ?_
      have rp := P.rep
      rw [asBl_inv q2] at rp
      exact ⟨_, Rep.bl_inv rp, k G' H' ⟨P.env, P.aft⟩⟩
theorem ST.cmp {op : CmpOp} {g : REnv → L → L → Option Bool} (h1 : SE X fa a d1) (h2 : SE X fa b d2) (hc : CmpR X fa op g) (hm : behindInMarks op b = false) : ST X fa (.Compare a [op] [b] pos) (dBl (den2 (gB g) d1 d2)) := by
  obtain ⟨r, p, q⟩ := hc.ex
  obtain ⟨t1, p1, r1⟩ := id h1
  obtain ⟨t2, p2, r2⟩ := id h2
  exact ⟨_, pt_cmpR p p1 p2 hm, test_read (two_read r1 r2 q.opt)⟩
/-- a op1 b op2 c -/
def denC (g g' : REnv → L → L → Option Bool) (d1 d2 d3 : Den) : Den := fun ρ => (d1 ρ).bind fun p => (d2 p.2).bind fun q => (g q.2 p.1 q.1).bind fun k =>
  if k then (d3 q.2).bind fun z => (g' z.2 q.1 z.1).map fun l' => (.t (.bl l'), z.2) else some (.t (.bl false), q.2)
theorem chain_read {t1 t2 t3 : TE} {r r' : R2} {g g' : REnv → L → L → Option Bool} (ra : Rd1 X fa t1 d1) (rb : Rd1 X fa t2 d2) (rc : Rd1 X fa t3 d3) (ho : CmT X.K fa r g) (ho' : CmT X.K fa r' g') :
    Rd1 X fa (tChain r r' t1 t2 t3) (denC g g' d1 d2 d3) := by
  intro σ G H ρ l ρ' Q E hd k
  cases q : d1 ρ with
  | none => simp [denC, q] at hd
  | some p =>
    cases q1 : d2 p.2 with
    | none => simp [denC, q, q1] at hd
    | some p' =>
      cases q2 : g p'.2 p.1 p'.1 with
      | none => simp [denC, q, q1, q2] at hd
      | some b' =>
        refine ra σ G H ρ p.1 p.2 _ E q fun v1 G1 H1 P1 => ?_
        refine rb σ G1 H1 p.2 p'.1 p'.2 _ P1.env q1 fun v2 G2 H2 P2 => ?_
        have O := P1.then2 P2
        refine ho _ _ _ _ _ _ _ _ _ _ _ _ _ O q2 ⟨b', rfl, ?_⟩
        cases b' with
        | false =>
          simp [denC, q, q1, q2] at hd
          obtain ⟨rfl, rfl⟩ := hd
          exact iteF (k _ _ _ (O.toAt.bl false).post)
        | true =>
          simp [denC, q, q1, q2] at hd
          refine iteT ?_
          cases q4 : d3 p'.2 with
          | none => simp [q4] at hd
          | some z =>
            cases q5 : g' z.2 p'.1 z.1 with
            | none => simp [q4, q5] at hd
            | some lz =>
              simp [q4, q5] at hd
              obtain ⟨rfl, rfl⟩ := hd
              refine rc σ G2 H2 p'.2 z.1 z.2 _ O.env q4 fun v3 G3 H3 P3 => ?_
              have O3 : Ops2 X.K fa (Cl σ ρ) G H G3 H3 σ z.2 v2 p'.1 v3 z.1 := ⟨⟨P3.env, O.aft.trans P3.aft⟩, O.r2.aft P3.aft, O.n2, P3.rep, P3.new.aft O.aft⟩
              exact ho' _ _ _ _ _ _ _ _ _ _ _ _ _ O3 q5 (k _ _ _ (O3.toAt.bl lz).post)
theorem SE.chain {op op' : CmpOp} {g g' : REnv → L → L → Option Bool} (h1 : SE X fa a d1) (h2 : SE X fa b d2) (h3 : SE X fa c d3) (hc : CmpR X fa op g) (hc' : CmpR X fa op' g') (hm : lastMarks [op, op'] [b, c] = false) :
    SE X fa (.Compare a [op, op'] [b, c] pos) (denC g g' d1 d2 d3) := by
  obtain ⟨r, p, q⟩ := hc.ex
  obtain ⟨r', p', q'⟩ := hc'.ex
  obtain ⟨t1, p1, r1⟩ := h1
  obtain ⟨t2, p2, r2⟩ := h2
  obtain ⟨t3, p3, r3⟩ := h3
  exact ⟨_, pe_chain p p' p1 p2 p3 hm, chain_read r1 r2 r3 q q'⟩
theorem ST.chain {op op' : CmpOp} {g g' : REnv → L → L → Option Bool} (h1 : SE X fa a d1) (h2 : SE X fa b d2) (h3 : SE X fa c d3) (hc : CmpR X fa op g) (hc' : CmpR X fa op' g') (hm : lastMarks [op, op'] [b, c] = false) :
    ST X fa (.Compare a [op, op'] [b, c] pos) (dBl (denC g g' d1 d2 d3)) := by
  obtain ⟨r, p, q⟩ := hc.ex
  obtain ⟨r', p', q'⟩ := hc'.ex
  obtain ⟨t1, p1, r1⟩ := h1
  obtain ⟨t2, p2, r2⟩ := h2
  obtain ⟨t3, p3, r3⟩ := h3
  exact ⟨_, pt_chain p p' p1 p2 p3 hm, test_read (chain_read r1 r2 r3 q q')⟩
/-- not, and, or of tests -/
def dNot (d : DenT) : DenT := fun ρ => (d ρ).map fun p => (!p.1, p.2)
def dAnd (d d' : DenT) : DenT := fun ρ => (d ρ).bind fun p => if p.1 then d' p.2 else some (false, p.2)
def dOr (d d' : DenT) : DenT := fun ρ => (d ρ).bind fun p => if p.1 then some (true, p.2) else d' p.2
theorem ST.not {d : DenT} (h : ST X fa a d) : ST X fa (.UnaryOp .Not a pos) (dNot d) := by
  obtain ⟨t, p, r⟩ := h
  refine ⟨_, pt_not p, fun σ G H ρ b ρ' Q E hd k => ?_⟩
  cases q : d ρ with
  | none => simp [dNot, q] at hd
  | some z =>
    have hd : some (!z.1, z.2) = some (b, ρ') := by rw [← hd]; simp [dNot, q]
    cases hd
    exact r σ G H ρ z.1 z.2 _ E q fun G' H' A => k G' H' A
/-- a chain of and, of or: by its first part and the rest -/
def SW (X : Cx) (fa : Nat → Addr) (e : Expr) (d : DenT) : Prop :=
  ∃ t : TT, PW X e t ∧ ∀ (σ : L2.St) (G H : Hp) (ρ : REnv) (b : Bool) (ρ' : REnv) (Q : Bool → Hp → Prop), EnvOk X.K fa G H σ ρ → d ρ = some (b, ρ') →
    (∀ G' H', At X.K fa (Cl σ ρ) G H G' H' σ ρ' → Q b H') → t σ H Q
theorem SW.test {d : DenT} (h : SW X fa a d) : ST X fa a d := by
  obtain ⟨t, p, r⟩ := h
  exact ⟨t, p.pt, r⟩
theorem SW.and1 {d : DenT} (h : ST X fa a d) : SW X fa (.BoolOp .And [a] pos) d := by
  obtain ⟨t, p, r⟩ := h
  exact ⟨_, pw_and1 p, r⟩
theorem SW.or1 {d : DenT} (h : ST X fa a d) : SW X fa (.BoolOp .Or [a] pos) d := by
  obtain ⟨t, p, r⟩ := h
  exact ⟨_, pw_or1 p, r⟩
theorem SW.and {d d' : DenT} (h : ST X fa a d) (h' : SW X fa (.BoolOp .And (b :: es) pos) d') : SW X fa (.BoolOp .And (a :: b :: es) pos) (dAnd d d') := by
  obtain ⟨t, p, r⟩ := h
  obtain ⟨t', p', r'⟩ := h'
  refine ⟨_, pw_and p p', fun σ G H ρ k ρ' Q E hd kk => ?_⟩
  cases q : d ρ with
  | none => simp [dAnd, q] at hd
  | some z =>
    refine r σ G H ρ z.1 z.2 _ E q fun G1 H1 A1 => ?_
    cases q1 : z.1 with
    | false =>
      simp [dAnd, q, q1] at hd
      obtain ⟨rfl, rfl⟩ := hd
      exact iteF (kk _ _ A1)
    | true =>
      simp [dAnd, q, q1] at hd
      exact iteT (r' σ G1 H1 z.2 k ρ' _ A1.env hd fun G2 H2 A2 => kk _ _ ⟨A2.env, A1.aft.trans A2.aft⟩)
theorem SW.or {d d' : DenT} (h : ST X fa a d) (h' : SW X fa (.BoolOp .Or (b :: es) pos) d') : SW X fa (.BoolOp .Or (a :: b :: es) pos) (dOr d d') := by
  obtain ⟨t, p, r⟩ := h
  obtain ⟨t', p', r'⟩ := h'
  refine ⟨_, pw_or p p', fun σ G H ρ k ρ' Q E hd kk => ?_⟩
  cases q : d ρ with
  | none => simp [dOr, q] at hd
  | some z =>
    refine r σ G H ρ z.1 z.2 _ E q fun G1 H1 A1 => ?_
    cases q1 : z.1 with
    | true =>
      simp [dOr, q, q1] at hd
      obtain ⟨rfl, rfl⟩ := hd
      exact iteT (kk _ _ A1)
    | false =>
      simp [dOr, q, q1] at hd
      exact iteF (r' σ G1 H1 z.2 k ρ' _ A1.env hd fun G2 H2 A2 => kk _ _ ⟨A2.env, A1.aft.trans A2.aft⟩)
/-- .. as values (of bools) -/
def dNotV (d : Den) : Den := fun ρ => (d ρ).bind fun p => p.1.asBl.map fun b => (.t (.bl (!b)), p.2)
def dAndV (d d' : Den) : Den := fun ρ => (d ρ).bind fun p => p.1.asBl.bind fun b => if b then d' p.2 else some (.t (.bl false), p.2)
def dOrV (d d' : Den) : Den := fun ρ => (d ρ).bind fun p => p.1.asBl.bind fun b => if b then some (.t (.bl true), p.2) else d' p.2
theorem SE.one {op : BoolOp} (h : SE X fa a d) : SE X fa (.BoolOp op [a] pos) d := by
  obtain ⟨t, p, r⟩ := h
  exact ⟨t, pe_one p, r⟩
theorem SE.notV (h : SE X fa a d) : SE X fa (.UnaryOp .Not a pos) (dNotV d) := by
  obtain ⟨t, p, r⟩ := h
  refine ⟨_, pe_not p, fun σ G H ρ l ρ' Q E hd k => ?_⟩
  cases q : d ρ with
  | none => simp [dNotV, q] at hd
  | some z =>
    cases q2 : z.1.asBl with
    | none => simp [dNotV, q, q2] at hd
    | some b' =>
      simp [dNotV, q, q2] at hd
      obtain ⟨rfl, rfl⟩ := hd
      refine r σ G H ρ z.1 z.2 _ E q fun v G' H' P => ?_
      have rp := P.rep
      rw [asBl_inv q2] at rp
      exact ⟨_, Rep.bl_inv rp, k _ _ _ ((At.bl ⟨P.env, P.aft⟩ (!b')).post)⟩
theorem SE.andV (h : SE X fa a d) (h' : SE X fa (.BoolOp .And (b :: es) pos) d1) : SE X fa (.BoolOp .And (a :: b :: es) pos) (dAndV d d1) := by
  obtain ⟨t, p, r⟩ := h
  obtain ⟨t', p', r'⟩ := h'
  refine ⟨_, pe_and p p', fun σ G H ρ l ρ' Q E hd k => ?_⟩
  cases q : d ρ with
  | none => simp [dAndV, q] at hd
  | some z =>
    cases q2 : z.1.asBl with
    | none => simp [dAndV, q, q2] at hd
    | some b' =>
      refine r σ G H ρ z.1 z.2 _ E q fun v G1 H1 P => ?_
      have rp := P.rep
      rw [asBl_inv q2] at rp
      refine ⟨_, Rep.bl_inv rp, ?_⟩
      cases b' with
      | false =>
        simp [dAndV, q, q2] at hd
        obtain ⟨rfl, rfl⟩ := hd
        exact iteF (k _ _ _ ((At.bl ⟨P.env, P.aft⟩ false).post))
      | true =>
        simp [dAndV, q, q2] at hd
        exact iteT (r' σ G1 H1 z.2 l ρ' _ P.env hd fun v2 G2 H2 P2 => k _ _ _ ⟨P.aft.trans P2.aft, P2.env, P2.rep, P2.new.aft P.aft⟩)
theorem SE.orV (h : SE X fa a d) (h' : SE X fa (.BoolOp .Or (b :: es) pos) d1) : SE X fa (.BoolOp .Or (a :: b :: es) pos) (dOrV d d1) := by
  obtain ⟨t, p, r⟩ := h
  obtain ⟨t', p', r'⟩ := h'
  refine ⟨_, pe_or p p', fun σ G H ρ l ρ' Q E hd k => ?_⟩
  cases q : d ρ with
  | none => simp [dOrV, q] at hd
  | some z =>
    cases q2 : z.1.asBl with
    | none => simp [dOrV, q, q2] at hd
    | some b' =>
      refine r σ G H ρ z.1 z.2 _ E q fun v G1 H1 P => ?_
      have rp := P.rep
      rw [asBl_inv q2] at rp
      refine ⟨_, Rep.bl_inv rp, ?_⟩
      cases b' with
      | true =>
        simp [dOrV, q, q2] at hd
        obtain ⟨rfl, rfl⟩ := hd
        exact iteT (k _ _ _ ((At.bl ⟨P.env, P.aft⟩ true).post))
      | false =>
        simp [dOrV, q, q2] at hd
        exact iteF (r' σ G1 H1 z.2 l ρ' _ P.env hd fun v2 G2 H2 P2 => k _ _ _ ⟨P.aft.trans P2.aft, P2.env, P2.rep, P2.new.aft P.aft⟩)
def dIf (c : DenT) (d d' : Den) : Den := fun ρ => (c ρ).bind fun p => if p.1 then d p.2 else d' p.2
theorem SE.ite {dc : DenT} (hc : ST X fa c dc) (h : SE X fa a d) (h' : SE X fa b d1) : SE X fa (.IfExp c a b pos) (dIf dc d d1) := by
  obtain ⟨tc, pc, rc⟩ := hc
  obtain ⟨t, p, r⟩ := h
  obtain ⟨t', p', r'⟩ := h'
  refine ⟨_, pe_ifExp pc p p', fun σ G H ρ l ρ' Q E hd k => ?_⟩
  cases q : dc ρ with
  | none => simp [dIf, q] at hd
  | some z =>
    refine rc σ G H ρ z.1 z.2 _ E q fun G1 H1 A1 => ?_
    cases q1 : z.1 with
    | true =>
      simp [dIf, q, q1] at hd
      exact iteT (r σ G1 H1 z.2 l ρ' _ A1.env hd fun v2 G2 H2 P2 => k _ _ _ ⟨A1.aft.trans P2.aft, P2.env, P2.rep, P2.new.aft A1.aft⟩)
    | false =>
      simp [dIf, q, q1] at hd
      exact iteF (r' σ G1 H1 z.2 l ρ' _ A1.env hd fun v2 G2 H2 P2 => k _ _ _ ⟨A1.aft.trans P2.aft, P2.env, P2.rep, P2.new.aft A1.aft⟩)
end
end LW
namespace LW
open PySem PySem.Spec PyProof.Rows L2

/-! ### trees as the library's data -/
mutual
def T.py : T → PyData
  | .non => .none
  | .bl b => .bool b
  | .int i => .int i
  | .str x => .str x
  | .lst xs => .list (T.pys xs)
  | .tup xs => .tuple (T.pys xs)
  | .lkl xs => .list (T.pys xs)
  | .fn _ => .none
  | .dic _ _ _ => .none
def T.pys : List T → List PyData
  | [] => []
  | x :: xs => T.py x :: T.pys xs
end
mutual
/-- no def among it; every text's signs are signs -/
def T.cln : T → Bool
  | .non => true
  | .bl _ => true
  | .int _ => true
  | .str x => PyData.strOk x
  | .lst xs => T.clns xs
  | .tup xs => T.clns xs
  | .lkl xs => T.clns xs
  | .fn _ => false
  | .dic _ _ _ => false
def T.clns : List T → Bool
  | [] => true
  | x :: xs => T.cln x && T.clns xs
end
mutual
def T.dep : T → Nat
  | .lst xs => T.deps xs + 1
  | .tup xs => T.deps xs + 1
  | .lkl xs => T.deps xs + 1
  | _ => 0
def T.deps : List T → Nat
  | [] => 0
  | x :: xs => max (T.dep x) (T.deps xs)
end
mutual
theorem T.py_dep : ∀ x : T, x.py.depth = x.dep
  | .non => rfl
  | .bl _ => rfl
  | .int _ => rfl
  | .str _ => rfl
  | .lst xs => by simp only [T.py, PyData.depth, T.dep, T.pys_dep xs]
  | .tup xs => by simp only [T.py, PyData.depth, T.dep, T.pys_dep xs]
  | .lkl xs => by simp only [T.py, PyData.depth, T.dep, T.pys_dep xs]
  | .fn _ => rfl
  | .dic _ _ _ => rfl
theorem T.pys_dep : ∀ xs : List T, PyData.depthAll (T.pys xs) = T.deps xs
  | [] => rfl
  | x :: xs => by simp only [T.pys, PyData.depthAll, T.deps, T.py_dep x, T.pys_dep xs]
end
mutual
theorem T.py_lay : ∀ x : T, x.cln = true → x.py.canLay0 = true
  | .non, _ => rfl
  | .bl _, _ => rfl
  | .int _, _ => rfl
  | .str x, h => by simpa only [T.py, PyData.canLay0, T.cln] using h
  | .lst xs, h => by
    simp only [T.py, PyData.canLay0]
    exact T.pys_lay xs (by simpa only [T.cln] using h)
  | .tup xs, h => by
    simp only [T.py, PyData.canLay0]
    exact T.pys_lay xs (by simpa only [T.cln] using h)
  | .lkl xs, h => by
    simp only [T.py, PyData.canLay0]
    exact T.pys_lay xs (by simpa only [T.cln] using h)
  | .fn _, _ => rfl
  | .dic _ _ _, _ => rfl
theorem T.pys_lay : ∀ xs : List T, T.clns xs = true → PyData.canLayAll0 (T.pys xs) = true
  | [], _ => rfl
  | x :: xs, h => by
    simp only [T.clns, Bool.and_eq_true] at h
    simp only [T.pys, PyData.canLayAll0, T.py_lay x h.1, T.pys_lay xs h.2, Bool.and_self]
end
/-- what == takes -/
def T.shp (x : T) : Bool := x.cln && decide (x.dep ≤ 64)
theorem T.shaped {x : T} (h : x.shp = true) : SeqAt.shaped x.py = true := by
  simp only [T.shp, Bool.and_eq_true, decide_eq_true_eq] at h
  simp only [SeqAt.shaped, Bool.and_eq_true, decide_eq_true_eq]
  exact ⟨T.py_lay x h.1, by rw [T.py_dep]; exact h.2⟩
section
variable {K : PySem.W.Frag} {fa : Nat → Addr} {G H : Hp}
mutual
theorem Rep.dp : ∀ {x : T} {v : V}, x.cln = true → Rep K fa G v x → Dp K G v x.py
  | .non, _, _, h => by cases h; exact .non
  | .bl b, _, _, h => by cases h; exact .bl b
  | .int i, _, _, h => by cases h; exact .int i
  | .str y, _, _, h => by cases h; exact .str y
  | .lst xs, _, c, h => by
    cases h with
    | lst e r => exact .lst (.of e) (Rep.dps (by simpa only [T.cln] using c) r)
  | .tup xs, _, c, h => by
    cases h with
    | tup e r => exact .tup e (Rep.dps (by simpa only [T.cln] using c) r)
  | .lkl xs, _, c, h => by
    cases h with
    | lkl e r => exact .lst e (Rep.dps (by simpa only [T.cln] using c) r)
  | .fn k, _, c, _ => absurd c (by simp [T.cln])
  | .dic _ _ _, _, c, _ => absurd c (by simp [T.cln])
theorem Rep.dps : ∀ {xs : List T} {vs : List V}, T.clns xs = true → RepAll K fa G vs xs → DpAll K G vs (T.pys xs)
  | [], _, _, h => by cases h; exact .nil
  | x :: xs, _, c, h => by
    simp only [T.clns, Bool.and_eq_true] at c
    cases h with
    | cons a b => exact .cons (Rep.dp c.1 a) (Rep.dps c.2 b)
end
end
/-- Python's == -/
def T.eqv (x y : T) : Bool := PyData.eqv x.py y.py
/-- scalars that == takes apart whatever they are -/
def T.scal : T → T → Bool
  | .non, .non => true | .non, .int _ => true | .int _, .non => true | .non, .bl _ => true | .bl _, .non => true | .non, .str _ => true | .str _, .non => true
  | .int _, .int _ => true | .bl _, .bl _ => true | .str _, .str _ => true
  | .int _, .str _ => true | .str _, .int _ => true | .bl _, .str _ => true | .str _, .bl _ => true
  | _, _ => false
theorem scal_eq {K : PySem.W.Frag} {fa : Nat → Addr} {G : Hp} {v w : V} {x y : T} (h : T.scal x y = true) (r1 : Rep K fa G v x) (r2 : Rep K fa G w y) : L2.scal v w = true ∧ decide (v = w) = T.eqv x y := by
  cases x <;> cases y <;> first
    | (simp [T.scal] at h; done)
    | (cases r1; cases r2; refine ⟨rfl, ?_⟩; simp only [T.eqv, T.py, PyData.eqv]; first | rfl | exact dec_int | exact dec_bl | exact dec_str | (simp; done))
def eqOk (x y : T) : Bool := T.scal x y || (x.shp && y.shp)
def gEq (ρ : REnv) (l1 l2 : L) : Option Bool :=
  match l1.view ρ, l2.view ρ with
  | some x, some y => if eqOk x y then some (T.eqv x y) else none
  | _, _ => none
def gNe (ρ : REnv) (l1 l2 : L) : Option Bool := (gEq ρ l1 l2).map fun b => !b
section
variable {X : Cx} {fa : Nat → Addr}
theorem gEq_inv {K : PySem.W.Frag} {C0 : Addr → Prop} {G0 H0 G H : Hp} {σ : L2.St} {ρ : REnv} {v1 v2 : V} {l1 l2 : L} {b : Bool} (O : Ops2 K fa C0 G0 H0 G H σ ρ v1 l1 v2 l2) (e : gEq ρ l1 l2 = some b) :
    (L2.scal v1 v2 = true ∧ b = decide (v1 = v2)) ∨ ∃ d e, Dp K H v1 d ∧ Dp K H v2 e ∧ SeqAt.shaped d = true ∧ SeqAt.shaped e = true ∧ b = PyData.eqv d e := by
  unfold gEq at e
  split at e
  · rename_i x y e1 e2
    split at e
    · rename_i h
      cases e
      have r1 := view_ok O.env O.r1 e1
      have r2 := view_ok O.env O.r2 e2
      simp only [eqOk, Bool.or_eq_true, Bool.and_eq_true] at h
      rcases h with h | h
      · obtain ⟨h1, h2⟩ := scal_eq h r1 r2
        exact .inl ⟨h1, h2.symm⟩
      · have c1 : x.cln = true := by have := h.1; simp only [T.shp, Bool.and_eq_true] at this; exact this.1
        have c2 : y.cln = true := by have := h.2; simp only [T.shp, Bool.and_eq_true] at this; exact this.1
        exact .inr ⟨_, _, r1.dp c1, r2.dp c2, T.shaped h.1, T.shaped h.2, rfl⟩
    · cases e
  · cases e
theorem cmp_eq (hu : X.A.units + 64 < cLine) : CmpR X fa .Eq gEq := by
  refine ⟨_, op_eq.or (op_eqD hu), fun C0 G0 H0 G H σ ρ v1 v2 l1 l2 b Q O e q => ?_⟩
  rcases gEq_inv O e with ⟨h1, h2⟩ | ⟨d, e', h1, h2, h3, h4, h5⟩
  · subst h2; exact .inl ⟨h1, q⟩
  · subst h5; exact .inr ⟨d, e', h1, h2, h3, h4, q⟩
theorem cmp_ne (hu : X.A.units + 64 < cLine) : CmpR X fa .NotEq gNe := by
  refine ⟨_, op_ne.or (op_neD hu), fun C0 G0 H0 G H σ ρ v1 v2 l1 l2 b Q O e q => ?_⟩
  cases qe : gEq ρ l1 l2 with
  | none => simp [gNe, qe] at e
  | some b' =>
    have e : some (!b') = some b := by rw [← e]; simp [gNe, qe]
    cases e
    rcases gEq_inv O qe with ⟨h1, h2⟩ | ⟨d, e', h1, h2, h3, h4, h5⟩
    · subst h2; exact .inl ⟨h1, q⟩
    · subst h5; exact .inr ⟨d, e', h1, h2, h3, h4, q⟩
def gOrd (p : Int → Int → Bool) (_ : REnv) (l1 l2 : L) : Option Bool :=
  match l1, l2 with
  | .t (.int i), .t (.int j) => some (p i j)
  | _, _ => none
theorem cmp_ord {op : CmpOp} {p : Int → Int → Bool} (h : OpR X (compareOp op) (rI0 fun i j => .bl (p i j))) : CmpR X fa op (gOrd p) := by
  refine ⟨_, h, fun C0 G0 H0 G H σ ρ v1 v2 l1 l2 b Q O e q => ?_⟩
  unfold gOrd at e
  split at e
  · cases e
    exact ⟨_, _, Rep.int_inv O.r1, Rep.int_inv O.r2, q⟩
  · cases e
def gLt := gOrd fun i j => decide (i < j)
def gLe := gOrd fun i j => decide (i ≤ j)
def gGt := gOrd fun i j => decide (j < i)
def gGe := gOrd fun i j => decide (j ≤ i)
theorem cmp_lt : CmpR X fa .Lt gLt := cmp_ord op_lt
theorem cmp_le : CmpR X fa .LtE gLe := cmp_ord op_le
theorem cmp_gt : CmpR X fa .Gt gGt := cmp_ord op_gt
theorem cmp_ge : CmpR X fa .GtE gGe := cmp_ord op_ge
/-- is None, is a bool -/
def T.isNon : T → Bool
  | .non => true
  | _ => false
def gIs (ρ : REnv) (l1 l2 : L) : Option Bool :=
  match l2 with
  | .t .non => (l1.view ρ).map T.isNon
  | .t (.bl b) => l1.asBl.map fun a => a == b
  | _ => none
def gIsNot (ρ : REnv) (l1 l2 : L) : Option Bool := (gIs ρ l1 l2).map fun b => !b
theorem non_iff {K : PySem.W.Frag} {G : Hp} {v : V} {x : T} (r : Rep K fa G v x) : decide (v = .non) = x.isNon := by
  cases x <;> cases r <;> rfl
theorem dec_blv {i j : Bool} : decide (i = j) = (i == j) := by cases i <;> cases j <;> rfl
theorem gIs_inv {K : PySem.W.Frag} {C0 : Addr → Prop} {G0 H0 G H : Hp} {σ : L2.St} {ρ : REnv} {v1 v2 : V} {l1 l2 : L} {b : Bool} (O : Ops2 K fa C0 G0 H0 G H σ ρ v1 l1 v2 l2) (e : gIs ρ l1 l2 = some b) :
    (v2 = .non ∧ b = decide (v1 = .non)) ∨ ∃ a c : Bool, v1 = .bl a ∧ v2 = .bl c ∧ b = decide (a = c) := by
  unfold gIs at e
  split at e
  · cases q : l1.view ρ with
    | none => simp [q] at e
    | some x =>
      simp [q] at e
      exact .inl ⟨Rep.non_inv O.r2, by rw [non_iff (view_ok O.env O.r1 q), e]⟩
  · cases q : l1.asBl with
    | none => simp [q] at e
    | some x =>
      simp [q] at e
      have r1 := O.r1
      rw [asBl_inv q] at r1
      exact .inr ⟨_, _, Rep.bl_inv r1, Rep.bl_inv O.r2, by rw [dec_blv, e]⟩
  · cases e
theorem cmp_is : CmpR X fa .Is gIs := by
  refine ⟨_, op_isN.or op_is_bl, fun C0 G0 H0 G H σ ρ v1 v2 l1 l2 b Q O e q => ?_⟩
  rcases gIs_inv O e with ⟨h1, h2⟩ | ⟨a, c, h1, h2, h3⟩
  · subst h2; exact .inl ⟨h1, q⟩
  · subst h3; exact .inr ⟨a, c, h1, h2, q⟩
theorem cmp_isNot : CmpR X fa .IsNot gIsNot := by
  refine ⟨_, op_notN.or op_isnot_bl, fun C0 G0 H0 G H σ ρ v1 v2 l1 l2 b Q O e q => ?_⟩
  cases qe : gIs ρ l1 l2 with
  | none => simp [gIsNot, qe] at e
  | some b' =>
    have e : some (!b') = some b := by rw [← e]; simp [gIsNot, qe]
    cases e
    rcases gIs_inv O qe with ⟨h1, h2⟩ | ⟨a, c, h1, h2, h3⟩
    · subst h2; exact .inl ⟨h1, q⟩
    · subst h3; exact .inr ⟨a, c, h1, h2, q⟩
/-- x in a list of data, in a tuple of flat ones, in a text -/
def T.flat : T → Bool
  | .non => true
  | .bl _ => true
  | .int _ => true
  | .str _ => true
  | _ => false
def T.inl (x : T) (ys : List T) : Bool := ys.any fun y => T.eqv y x
def gIn (ρ : REnv) (l1 l2 : L) : Option Bool :=
  match l1.view ρ, l2.view ρ with
  | some x, some (.lst ys) => if x.shp && (T.lst ys).shp then some (x.inl ys) else none
  | some x, some (.tup ys) => if x.flat && ys.all T.flat then some (x.inl ys) else none
  | some (.str x), some (.str y) => some (!(Builtin.Str.occurrences y x 0 y.length 1).isEmpty)
  | _, _ => none
def gNotIn (ρ : REnv) (l1 l2 : L) : Option Bool := (gIn ρ l1 l2).map fun b => !b
theorem pys_map : ∀ xs : List T, T.pys xs = xs.map T.py
  | [] => rfl
  | x :: xs => by simp only [T.pys, List.map_cons, pys_map xs]
theorem flat_V {K : PySem.W.Frag} {G : Hp} {v : V} {x : T} (h : x.flat = true) (r : Rep K fa G v x) : flatV v = true := by
  cases x <;> first
    | (simp [T.flat] at h; done)
    | (cases r; rfl)
theorem flat_eqv {K : PySem.W.Frag} {G : Hp} {v w : V} {x y : T} (h : x.flat = true) (h' : y.flat = true) (r : Rep K fa G v x) (r' : Rep K fa G w y) : eqV w v = T.eqv y x := by
  cases x <;> first
    | (simp [T.flat] at h; done)
    | (cases y <;> first
        | (simp [T.flat] at h'; done)
        | (cases r; cases r'; simp only [T.eqv, T.py, PyData.eqv, eqV]))
theorem flat_all {K : PySem.W.Frag} {G : Hp} : ∀ {ys : List T} {vs : List V}, ys.all T.flat = true → RepAll K fa G vs ys → vs.all flatV = true
  | [], _, _, h => by cases h; rfl
  | y :: ys, _, hf, h => by
    cases h with
    | cons a b =>
      simp only [List.all_cons, Bool.and_eq_true] at hf ⊢
      exact ⟨flat_V hf.1 a, flat_all hf.2 b⟩
theorem flat_in {K : PySem.W.Frag} {G : Hp} {v : V} {x : T} (hx : x.flat = true) (r : Rep K fa G v x) : ∀ {ys : List T} {vs : List V}, ys.all T.flat = true → RepAll K fa G vs ys → inV v vs = x.inl ys
  | [], _, _, h => by cases h; rfl
  | y :: ys, _, hf, h => by
    cases h with
    | cons a b =>
      simp only [List.all_cons, Bool.and_eq_true] at hf
      have ih := flat_in hx r hf.2 b
      simp only [inV, T.inl] at ih
      simp only [inV, T.inl, List.any_cons, flat_eqv hx hf.1 r a, ih]
theorem gIn_inv {K : PySem.W.Frag} {C0 : Addr → Prop} {G0 H0 G H : Hp} {σ : L2.St} {ρ : REnv} {v1 v2 : V} {l1 l2 : L} {b : Bool} (O : Ops2 K fa C0 G0 H0 G H σ ρ v1 l1 v2 l2) (e : gIn ρ l1 l2 = some b) :
    (∃ d ds, Dp K H v1 d ∧ Dp K H v2 (.list ds) ∧ SeqAt.shaped d = true ∧ SeqAt.shaped (.list ds) = true ∧ b = ds.any fun z => PyData.eqv z d) ∨
    (∃ p xs, v2 = .ref p ∧ (SqL K H p xs ∨ SqT K H p xs) ∧ flatV v1 = true ∧ xs.all flatV = true ∧ b = inV v1 xs) ∨
    ∃ i j, v1 = .str i ∧ v2 = .str j ∧ b = !(Builtin.Str.occurrences j i 0 j.length 1).isEmpty := by
  unfold gIn at e
  split at e
  · rename_i x ys e1 e2
    split at e
    · rename_i h
      cases e
      simp only [Bool.and_eq_true] at h
      have r1 := view_ok O.env O.r1 e1
      have r2 := view_ok O.env O.r2 e2
      have c1 : x.cln = true := by have := h.1; simp only [T.shp, Bool.and_eq_true] at this; exact this.1
      have c2 : (T.lst ys).cln = true := by have := h.2; simp only [T.shp, Bool.and_eq_true] at this; exact this.1
      refine .inl ⟨_, T.pys ys, r1.dp c1, r2.dp c2, T.shaped h.1, T.shaped h.2, ?_⟩
      rw [pys_map, List.any_map]
      rfl
    · cases e
  · rename_i x ys e1 e2
    split at e
    · rename_i h
      cases e
      simp only [Bool.and_eq_true] at h
      have r1 := view_ok O.env O.r1 e1
      have r2 := view_ok O.env O.r2 e2
      cases r2 with
      | tup s a => exact .inr (.inl ⟨_, _, rfl, .inr s, flat_V h.1 r1, flat_all h.2 a, (flat_in h.1 r1 h.2 a).symm⟩)
    · cases e
  · rename_i x y e1 e2
    cases e
    have r1 := view_ok O.env O.r1 e1
    have r2 := view_ok O.env O.r2 e2
    exact .inr (.inr ⟨_, _, Rep.str_inv r1, Rep.str_inv r2, rfl⟩)
  · cases e
theorem cmp_in (hu : X.A.units + 65 < cLine) : CmpR X fa .In gIn := by
  refine ⟨_, (op_inD hu).or (op_in_seq.or op_in_str), fun C0 G0 H0 G H σ ρ v1 v2 l1 l2 b Q O e q => ?_⟩
  rcases gIn_inv O e with ⟨d, ds, h1, h2, h3, h4, h5⟩ | ⟨p, xs, h1, h2, h3, h4, h5⟩ | ⟨i, j, h1, h2, h3⟩
  · subst h5; exact .inl ⟨d, ds, h1, h2, h3, h4, q⟩
  · subst h5; exact .inr (.inl ⟨p, xs, h1, h2, h3, h4, by simpa using q⟩)
  · subst h3; exact .inr (.inr ⟨i, j, h1, h2, q⟩)
theorem cmp_notIn (hu : X.A.units + 65 < cLine) : CmpR X fa .NotIn gNotIn := by
  refine ⟨_, (op_notInD hu).or (op_notIn_seq.or op_notin_str), fun C0 G0 H0 G H σ ρ v1 v2 l1 l2 b Q O e q => ?_⟩
  cases qe : gIn ρ l1 l2 with
  | none => simp [gNotIn, qe] at e
  | some b' =>
    have e : some (!b') = some b := by rw [← e]; simp [gNotIn, qe]
    cases e
    rcases gIn_inv O qe with ⟨d, ds, h1, h2, h3, h4, h5⟩ | ⟨p, xs, h1, h2, h3, h4, h5⟩ | ⟨i, j, h1, h2, h3⟩
    · subst h5; exact .inl ⟨d, ds, h1, h2, h3, h4, q⟩
    · subst h5; exact .inr (.inl ⟨p, xs, h1, h2, h3, h4, by simpa using q⟩)
    · subst h3; exact .inr (.inr ⟨i, j, h1, h2, q⟩)
end
end LW
namespace LW
open PySem PySem.Spec PyProof.Rows L2

section
variable {X : Cx} {fa : Nat → Addr} {e a b c : Expr} {es : List Expr} {d d1 d2 d3 : Den} {pos : Pos}
/-! ### arguments, as trees -/
abbrev DenA := REnv → Option (List T × REnv)
def SA (X : Cx) (fa : Nat → Addr) (es : List Expr) (d : DenA) : Prop :=
  ∃ t : TA, PA X es t ∧ ∀ (σ : L2.St) (G H : Hp) (ρ : REnv) (ts : List T) (ρ' : REnv) (Q : List V → Hp → Prop), EnvOk X.K fa G H σ ρ → d ρ = some (ts, ρ') →
    (∀ vs G' H', At X.K fa (Cl σ ρ) G H G' H' σ ρ' → RepAll X.K fa G' vs ts → Q vs H') → t σ H Q
def dNil : DenA := fun ρ => some ([], ρ)
def dCons (d : Den) (da : DenA) : DenA := fun ρ => (d ρ).bind fun p => p.1.tree.bind fun x => (da p.2).map fun q => (x :: q.1, q.2)
theorem SA.nil : SA X fa [] dNil := ⟨_, pa_nil, fun σ G H ρ ts ρ' Q E hd k => by cases hd; exact k [] G H (At.start E) .nil⟩
theorem SA.cons {da : DenA} (h : SE X fa e d) (ha : SA X fa es da) (hs : starEach (e :: es) X.env = (false, eval e X.env) :: starEach es X.env) : SA X fa (e :: es) (dCons d da) := by
  obtain ⟨t, p, r⟩ := h
  obtain ⟨t', p', r'⟩ := ha
  refine ⟨_, pa_cons p p' hs, fun σ G H ρ ts ρ' Q E hd k => ?_⟩
  cases q : d ρ with
  | none => simp [dCons, q] at hd
  | some z =>
    cases q1 : z.1.tree with
    | none => simp [dCons, q, q1] at hd
    | some x =>
      cases q2 : da z.2 with
      | none => simp [dCons, q, q1, q2] at hd
      | some w =>
        simp [dCons, q, q1, q2] at hd
        obtain ⟨rfl, rfl⟩ := hd
        refine r σ G H ρ z.1 z.2 _ E q fun v G1 H1 P => ?_
        obtain ⟨G1', E1, R1, A1, sm, _⟩ := toTree P.env P.rep P.new P.aft q1
        exact r' σ G1' H1 z.2 w.1 w.2 _ E1 q2 fun vs G2 H2 A2 Rs => k (v :: vs) G2 H2 ⟨A2.env, A1.trans A2.aft⟩ (.cons (R1.mono A2.aft.gg) Rs)
/-- a tuple, a list -/
def dTup (da : DenA) : Den := fun ρ => (da ρ).bind fun p => if p.1.length ≤ line then some (.t (.tup p.1), p.2) else none
def dLst (da : DenA) : Den := fun ρ => (da ρ).bind fun p => if p.1.length ≤ line then some (.own (.lst p.1), p.2) else none
theorem SE.tup {da : DenA} {n : Nat} (h : SA X fa es da) : SE X fa (.Tuple es n pos) (dTup da) := by
  obtain ⟨t, p, r⟩ := h
  refine ⟨_, pe_tup p, fun σ G H ρ l ρ' Q E hd k => ?_⟩
  cases q : da ρ with
  | none => simp [dTup, q] at hd
  | some z =>
    by_cases hz : z.1.length ≤ line
    · simp [dTup, q, hz] at hd
      obtain ⟨rfl, rfl⟩ := hd
      refine r σ G H ρ z.1 z.2 _ E q fun vs G1 H1 A Rs => ⟨by rw [Rs.length, ← line_eq]; exact hz, fun p np => ?_⟩
      exact k _ _ _ (A.tupR np Rs).post
    · simp [dTup, q, hz] at hd
theorem SE.lst {da : DenA} (h : SA X fa es da) : SE X fa (.List es pos) (dLst da) := by
  obtain ⟨t, p, r⟩ := h
  refine ⟨_, pe_lst p, fun σ G H ρ l ρ' Q E hd k => ?_⟩
  cases q : da ρ with
  | none => simp [dLst, q] at hd
  | some z =>
    by_cases hz : z.1.length ≤ line
    · simp [dLst, q, hz] at hd
      obtain ⟨rfl, rfl⟩ := hd
      refine r σ G H ρ z.1 z.2 _ E q fun vs G1 H1 A Rs => ⟨by rw [Rs.length, ← line_eq]; exact hz, fun p np => ?_⟩
      exact k _ _ _ (A.lstR np Rs).post
    · simp [dLst, q, hz] at hd

/-! ### a[i] -/
def sign1 (c : Nat) : Str := ⟨#[c]⟩
def gIx (ρ : REnv) (l1 l2 : L) : Option L :=
  match l2 with
  | .t (.int i) => match l1 with
    | .t (.tup xs) => (atI xs i).map .t
    | .t (.str z) => if z.length ≤ line then (atI z.cps.toList i).map fun c => .t (.str (sign1 c)) else none
    | .t (.lkl xs) => (atI xs i).map .t
    | l => (l.lview ρ).bind fun xs => (atI xs i).map .t
  | _ => none
theorem atI_rep {K : PySem.W.Frag} {G : Hp} {vs : List V} {ts : List T} {i : Int} {x : T} (r : RepAll K fa G vs ts) (h : atI ts i = some x) : ∃ v, atI vs i = some v ∧ Rep K fa G v x := by
  unfold atI at h ⊢
  rw [r.length]
  cases q : ixN ts.length i with
  | none => rw [q] at h; cases h
  | some j =>
    rw [q] at h
    exact r.get h
theorem opt_ix {K : PySem.W.Frag} : OpT K fa (rIx K) gIx := by
  intro C0 G0 H0 G H σ ρ v1 v2 l1 l2 l Q O e k
  unfold gIx at e
  split at e
  · rename_i i
    have e2 := Rep.int_inv O.r2
    split at e
    · rename_i xs
      cases q : atI xs i with
      | none => simp [q] at e
      | some x =>
        simp [q] at e
        subst e
        cases (show Rep K fa G v1 _ from O.r1) with
        | tup s a =>
          obtain ⟨v, h1, h2⟩ := atI_rep a q
          exact .inr (.inl ⟨_, _, _, v, rfl, e2, same_sqT O.env.same s, h1, k _ _ _ (O.toAt.tr h2)⟩)
    · rename_i z
      split at e
      · rename_i hz
        cases q : atI z.cps.toList i with
        | none => simp [q] at e
        | some x =>
          simp [q] at e
          subst e
          exact .inr (.inr ⟨z, i, x, Rep.str_inv O.r1, e2, by rw [← line_eq]; exact hz, q, k _ _ _ (O.toAt.str _)⟩)
      · cases e
    · rename_i xs
      cases q : atI xs i with
      | none => simp [q] at e
      | some x =>
        simp [q] at e
        subst e
        cases (show Rep K fa G v1 _ from O.r1) with
        | lkl s a =>
          obtain ⟨v, h1, h2⟩ := atI_rep a q
          exact .inl ⟨_, _, _, v, rfl, e2, O.env.same.seq s, h1, k _ _ _ (O.toAt.tr h2)⟩
    · cases q0 : l1.lview ρ with
      | none => simp [q0] at e
      | some xs =>
        cases q : atI xs i with
        | none => simp [q0, q] at e
        | some x =>
          simp [q0, q] at e
          subst e
          obtain ⟨p, vs, rfl, hp, rp⟩ := lview_ok O.env O.r1 q0
          obtain ⟨v, h1, h2⟩ := atI_rep rp q
          exact .inl ⟨_, _, _, v, rfl, e2, .of hp, h1, k _ _ _ (O.toAt.tr h2)⟩
  · cases e
theorem SE.ix (h1 : SE X fa a d1) (h2 : SE X fa b d2) (hs : PlainIx b) : SE X fa (.Subscript a b pos) (den2 gIx d1 d2) := h1.two h2 (fun _ _ pa pb => pe_ix ix_seq pa pb hs) opt_ix

/-! ### a[i:j] -/
def SO (X : Cx) (fa : Nat → Addr) (e : Option Expr) (d : REnv → Option (Option Int × REnv)) : Prop :=
  ∃ t : TO, PO X e t ∧ ∀ (σ : L2.St) (G H : Hp) (ρ : REnv) (o : Option Int) (ρ' : REnv) (Q : Option Int → Hp → Prop), EnvOk X.K fa G H σ ρ → d ρ = some (o, ρ') →
    (∀ G' H', At X.K fa (Cl σ ρ) G H G' H' σ ρ' → Q o H') → t σ H Q
abbrev DenO := REnv → Option (Option Int × REnv)
def dNone : DenO := fun ρ => some (none, ρ)
def L.asInt : L → Option Int
  | .t (.int i) => some i
  | _ => none
theorem asInt_inv {l : L} {b : Int} (h : l.asInt = some b) : l = .t (.int b) := by
  unfold L.asInt at h
  split at h
  · cases h; rfl
  · cases h
def dSome (d : Den) : DenO := fun ρ => (d ρ).bind fun p => p.1.asInt.map fun i => (some i, p.2)
theorem SO.none : SO X fa none dNone := ⟨_, po_none, fun σ G H ρ o ρ' Q E hd k => by cases hd; exact k G H (At.start E)⟩
theorem SO.some (h : SE X fa e d) : SO X fa (some e) (dSome d) := by
  obtain ⟨t, p, r⟩ := h
  refine ⟨_, po_some p, fun σ G H ρ o ρ' Q E hd k => ?_⟩
  cases q : d ρ with
  | none => simp [dSome, q] at hd
  | some z =>
    cases q1 : z.1.asInt with
    | none => simp [dSome, q, q1] at hd
    | some x =>
      simp [dSome, q, q1] at hd
      obtain ⟨rfl, rfl⟩ := hd
      refine r σ G H ρ z.1 z.2 _ E q fun v G1 H1 P => ?_
      have rp := P.rep
      rw [asInt_inv q1] at rp
      exact ⟨_, Rep.int_inv rp, k _ _ ⟨P.env, P.aft⟩⟩
/-- xs[lo:hi] -/
def cutT (xs : List T) (lo hi : Option Int) : List T := (xs.drop (HT.sIx xs.length 0 lo)).take (HT.sIx xs.length xs.length hi - HT.sIx xs.length 0 lo)
theorem cut_rep {K : PySem.W.Frag} {G : Hp} {vs : List V} {ts : List T} {lo hi : Option Int} (r : RepAll K fa G vs ts) : RepAll K fa G (cutV vs lo hi) (cutT ts lo hi) := by
  unfold cutV cutT
  rw [r.length]
  exact (r.drop _).take _
def gSl (ρ : REnv) (l : L) (lo hi : Option Int) : Option L :=
  match l with
  | .t (.tup xs) => some (.t (.tup (cutT xs lo hi)))
  | .t (.str z) => if z.length ≤ line then some (.t (.str (Txt.slice z lo hi))) else none
  | .t (.lkl xs) => some (.own (.lst (cutT xs lo hi)))
  | l => (l.lview ρ).map fun xs => .own (.lst (cutT xs lo hi))
def rSlX3 (K : PySem.W.Frag) : V → Option Int → Option Int → Hp → VK → Prop := fun x lo hi H Q => rSlL K x lo hi H Q ∨ (rSlA K x lo hi H Q ∨ C8.rSlX x lo hi H Q)
def dSl (d : Den) (dl dh : DenO) : Den := fun ρ => (d ρ).bind fun p => (dl p.2).bind fun q => (dh q.2).bind fun z => (gSl z.2 p.1 q.1 z.1).map fun l => (l, z.2)
theorem take_self {α : Type} (xs : List α) {a b : Nat} (h1 : a = 0) (h2 : b = xs.length) : (xs.drop a).take (b - a) = xs := by subst h1 h2; simp
theorem sl_ok {K : PySem.W.Frag} {C0 : Addr → Prop} {G0 H0 G H : Hp} {σ : L2.St} {ρ : REnv} {v1 : V} {l1 l : L} {lo hi : Option Int} {Q : VK} (O : Ops1 K fa C0 G0 H0 G H σ ρ v1 l1) (e : gSl ρ l1 lo hi = some l)
    (k : ∀ v G' H', Ops1 K fa C0 G0 H0 G' H' σ ρ v l → Q v H') : rSlX3 K v1 lo hi H Q := by
  unfold gSl at e
  split at e
  · rename_i xs
    cases e
    cases (show Rep K fa G v1 _ from O.r1) with
    | tup s a =>
      refine .inr (.inl ⟨_, _, rfl, same_sqT O.env.same s, fun hw => ?_, fun _ p np => k _ _ _ (O.toAt.tupR np (cut_rep a))⟩)
      have hl := a.length
      rw [hl] at hw
      have : cutT xs lo hi = xs := take_self xs hw.1 hw.2
      rw [this] at k
      exact k _ _ _ (O.toAt.tr (.tup s a))
  · split at e
    · rename_i z hz
      cases e
      exact .inr (.inr ⟨_, Rep.str_inv O.r1, by rw [← line_eq]; exact hz, k _ _ _ (O.toAt.str _)⟩)
    · cases e
  · cases e
    cases (show Rep K fa G v1 _ from O.r1) with
    | lkl s a => exact .inl ⟨_, _, rfl, O.env.same.seq s, fun p np => k _ _ _ (O.toAt.lstR np (cut_rep a))⟩
  · cases q0 : l1.lview ρ with
    | none => simp [q0] at e
    | some xs =>
      simp [q0] at e
      subst e
      obtain ⟨p, vs, rfl, hp, rp⟩ := lview_ok O.env O.r1 q0
      exact .inl ⟨_, _, rfl, .of hp, fun p np => k _ _ _ (O.toAt.lstR np (cut_rep rp))⟩
theorem SE.sl {lo hi : Option Expr} {dl dh : DenO} {p2 : Pos} (h : SE X fa a d) (hl : SO X fa lo dl) (hh : SO X fa hi dh) : SE X fa (.Subscript a (.Slice lo hi none p2) pos) (dSl d dl dh) := by
  obtain ⟨t, p, r⟩ := h
  obtain ⟨tl, pl, rl⟩ := hl
  obtain ⟨th, ph, rh⟩ := hh
  refine ⟨_, pe_slice (sl_list.or (sl_tupA.or C8.sl_txt)) p pl ph, fun σ G H ρ l ρ' Q E hd k => ?_⟩
  cases q : d ρ with
  | none => simp [dSl, q] at hd
  | some z =>
    cases q1 : dl z.2 with
    | none => simp [dSl, q, q1] at hd
    | some w =>
      cases q2 : dh w.2 with
      | none => simp [dSl, q, q1, q2] at hd
      | some y =>
        cases q3 : gSl y.2 z.1 w.1 y.1 with
        | none => simp [dSl, q, q1, q2, q3] at hd
        | some l' =>
          simp [dSl, q, q1, q2, q3] at hd
          obtain ⟨rfl, rfl⟩ := hd
          refine r σ G H ρ z.1 z.2 _ E q fun v G1 H1 P1 => ?_
          refine rl σ G1 H1 z.2 w.1 w.2 _ P1.env q1 fun G2 H2 A2 => ?_
          refine rh σ G2 H2 w.2 y.1 y.2 _ A2.env q2 fun G3 H3 A3 => ?_
          exact sl_ok ⟨⟨A3.env, (P1.aft.trans A2.aft).trans A3.aft⟩, (P1.rep.aft A2.aft).aft A3.aft, P1.new⟩ q3 fun v G' H' R => k v G' H' R.post
end
end LW
namespace LW
open PySem PySem.Spec PyProof.Rows L2

/-! ### one reading for all contexts -/
def tD (K : PySem.W.Frag) (fa : Nat → Addr) (d : Den) : TE := fun σ H Q => ∃ (G : Hp) (ρ : REnv) (l : L) (ρ' : REnv), EnvOk K fa G H σ ρ ∧ d ρ = some (l, ρ') ∧ ∀ v G' H', Post K fa G H σ ρ l ρ' v G' H' → Q v H'
def tDT (K : PySem.W.Frag) (fa : Nat → Addr) (d : DenT) : TT := fun σ H Q => ∃ (G : Hp) (ρ : REnv) (b : Bool) (ρ' : REnv), EnvOk K fa G H σ ρ ∧ d ρ = some (b, ρ') ∧ ∀ G' H', At K fa (Cl σ ρ) G H G' H' σ ρ' → Q b H'
section
variable {X : Cx} {fa : Nat → Addr} {e : Expr} {d : Den}
theorem SE.pe (h : SE X fa e d) : PE X e (tD X.K fa d) := by
  obtain ⟨t, p, r⟩ := h
  exact ⟨fun pins s σ H Q I ⟨G, ρ, l, ρ', E, hd, k⟩ => p.run pins s σ H Q I (r σ G H ρ l ρ' Q E hd k)⟩
theorem SE.rd (K : PySem.W.Frag) (hK : X.K = K) : Rd1 X fa (tD K fa d) d := fun σ G H ρ l ρ' Q E hd k => by
  subst hK
  exact ⟨G, ρ, l, ρ', E, hd, k⟩
theorem ST.pt {d : DenT} (h : ST X fa e d) : PT X e (tDT X.K fa d) := by
  obtain ⟨t, p, r⟩ := h
  exact ⟨fun pins s σ H Q I ⟨G, ρ, l, ρ', E, hd, k⟩ => p.run pins s σ H Q I (r σ G H ρ l ρ' Q E hd k)⟩
end

/-! ### slots stored -/
section
variable {K : PySem.W.Frag} {fa : Nat → Addr} {C0 : Addr → Prop} {G0 H0 G H G' H' : Hp} {σ σ' : L2.St} {ρ ρ' : REnv}
theorem set_get {α : Type} {xs : List α} {i j : Nat} {v w : α} (h : (xs.set i v)[j]? = some w) : (j = i ∧ w = v) ∨ (j ≠ i ∧ xs[j]? = some w) := by
  by_cases e : i = j
  · subst e
    have hi : i < xs.length := by
      have := (List.getElem?_eq_some_iff.mp h).1
      simpa using this
    rw [List.getElem?_set_self hi] at h
    cases h
    exact .inl ⟨rfl, rfl⟩
  · rw [List.getElem?_set_ne e] at h
    exact .inr ⟨fun z => e z.symm, h⟩
theorem set_ne {α : Type} {xs : List α} {i j : Nat} {v w : α} (h : j ≠ i) (e : xs[j]? = some w) : (xs.set i v)[j]? = some w := by
  rw [List.getElem?_set_ne (fun z => h z.symm)]
  exact e
theorem Cl.set_t {i : Nat} {v : Option V} {l : L} (nl : ∀ c, l ≠ .own c) {a : Addr} (h : Cl (σ.set i v) (ρ.set i l) a) : Cl σ ρ a := by
  obtain ⟨j, c, e1, e2⟩ := h
  rcases set_get e1 with ⟨_, e⟩ | ⟨n, e⟩
  · exact absurd e.symm (nl c)
  · rcases set_get e2 with ⟨z, _⟩ | ⟨_, e'⟩
    · exact absurd z n
    · exact ⟨j, c, e, e'⟩
theorem EnvOk.set_t (E : EnvOk K fa G H σ ρ) {i : Nat} {v : V} {x : T} (hi : i < ρ.length) (r : Rep K fa G v x) : EnvOk K fa G H (σ.set i (some v)) (ρ.set i (.t x)) := by
  have hs : i < σ.length := by rw [← E.len]; exact hi
  refine ⟨E.same, by simp [E.len], fun j y e => ?_, fun j c e => ?_, fun j k c c' a e1 e2 e3 e4 => ?_⟩
  · rcases set_get e with ⟨rfl, e'⟩ | ⟨n, e⟩
    · cases e'
      exact ⟨v, List.getElem?_set_self hs, r⟩
    · obtain ⟨w, h1, h2⟩ := E.t j y e
      exact ⟨w, set_ne n h1, h2⟩
  · rcases set_get e with ⟨_, e⟩ | ⟨n, e⟩
    · cases e
    · obtain ⟨a, o, h1, h2⟩ := E.own j c e
      exact ⟨a, o, set_ne n h1, h2⟩
  · rcases set_get e1 with ⟨_, e⟩ | ⟨n, f1⟩
    · cases e
    · rcases set_get e2 with ⟨_, e⟩ | ⟨m, f2⟩
      · cases e
      · rcases set_get e3 with ⟨z, _⟩ | ⟨_, f3⟩
        · exact absurd z n
        · rcases set_get e4 with ⟨z, _⟩ | ⟨_, f4⟩
          · exact absurd z m
          · exact E.inj j k c c' a f1 f2 f3 f4
theorem EnvOk.set_own (E : EnvOk K fa G H σ ρ) {i : Nat} {v : V} {c : OC} (hi : i < ρ.length) (r : LRep K fa G H (Cl σ ρ) σ v (.own c)) : EnvOk K fa G H (σ.set i (some v)) (ρ.set i (.own c)) := by
  have hs : i < σ.length := by rw [← E.len]; exact hi
  obtain ⟨p, o, rfl, g, nc, hh, ro⟩ := r
  refine ⟨E.same, by simp [E.len], fun j y e => ?_, fun j c e => ?_, fun j k c c' a e1 e2 e3 e4 => ?_⟩
  · rcases set_get e with ⟨_, e⟩ | ⟨n, e⟩
    · cases e
    · obtain ⟨w, h1, h2⟩ := E.t j y e
      exact ⟨w, set_ne n h1, h2⟩
  · rcases set_get e with ⟨rfl, e'⟩ | ⟨n, e⟩
    · cases e'
      exact ⟨p, o, List.getElem?_set_self hs, g, hh, ro⟩
    · obtain ⟨a, o, h1, h2⟩ := E.own j c e
      exact ⟨a, o, set_ne n h1, h2⟩
  · rcases set_get e1 with ⟨rfl, e⟩ | ⟨n, f1⟩
    · rcases set_get e2 with ⟨rfl, e⟩ | ⟨m, f2⟩
      · rfl
      · rw [List.getElem?_set_self hs] at e3
        cases e3
        rcases set_get e4 with ⟨z, _⟩ | ⟨_, f4⟩
        · exact absurd z m
        · exact absurd ⟨k, c', f2, f4⟩ nc
    · rcases set_get e2 with ⟨rfl, e⟩ | ⟨m, f2⟩
      · rw [List.getElem?_set_self hs] at e4
        cases e4
        rcases set_get e3 with ⟨z, _⟩ | ⟨_, f3⟩
        · exact absurd z n
        · exact absurd ⟨j, c, f1, f3⟩ nc
      · rcases set_get e3 with ⟨z, _⟩ | ⟨_, f3⟩
        · exact absurd z n
        · rcases set_get e4 with ⟨z, _⟩ | ⟨_, f4⟩
          · exact absurd z m
          · exact E.inj j k c c' a f1 f2 f3 f4
theorem Cl.set_own {i : Nat} {p a : Addr} {c : OC} (h : Cl (σ.set i (some (.ref p))) (ρ.set i (.own c)) a) : a = p ∨ Cl σ ρ a := by
  obtain ⟨j, c', e1, e2⟩ := h
  rcases set_get e2 with ⟨rfl, e⟩ | ⟨n, e⟩
  · cases e; exact .inl rfl
  · rcases set_get e1 with ⟨z, _⟩ | ⟨_, f⟩
    · exact absurd z n
    · exact .inr ⟨j, c', f, e⟩
/-- a slot is forgotten -/
theorem EnvOk.hide (E : EnvOk K fa G H σ ρ) (i : Nat) : EnvOk K fa G H σ (ρ.set i .un) := by
  refine ⟨E.same, by simp [E.len], fun j y e => ?_, fun j c e => ?_, fun j k c c' a e1 e2 e3 e4 => ?_⟩
  · rcases set_get e with ⟨_, e⟩ | ⟨n, e⟩
    · cases e
    · exact E.t j y e
  · rcases set_get e with ⟨_, e⟩ | ⟨n, e⟩
    · cases e
    · exact E.own j c e
  · rcases set_get e1 with ⟨_, e⟩ | ⟨n, f1⟩
    · cases e
    · rcases set_get e2 with ⟨_, e⟩ | ⟨m, f2⟩
      · cases e
      · exact E.inj j k c c' a f1 f2 e3 e4
theorem Cl.hide {i : Nat} {a : Addr} (h : Cl σ (ρ.set i .un) a) : Cl σ ρ a := by
  obtain ⟨j, c, e1, e2⟩ := h
  rcases set_get e1 with ⟨_, e⟩ | ⟨_, e⟩
  · cases e
  · exact ⟨j, c, e, e2⟩
/-- what does not touch the slots' own objects leaves the slots -/
theorem EnvOk.carry {C C' : Addr → Prop} (E : EnvOk K fa G H σ ρ) (a : Aft C C' G H G' H') (s : Same G' H') (n : ∀ b, Cl σ ρ b → ¬ C b) : EnvOk K fa G' H' σ ρ := by
  refine ⟨s, E.len, fun i x e => ?_, fun i c e => ?_, E.inj⟩
  · obtain ⟨v, h1, h2⟩ := E.t i x e
    exact ⟨v, h1, h2.mono a.gg⟩
  · obtain ⟨p, o, h1, h2, h3, h4⟩ := E.own i c e
    have nc := n p ⟨i, c, e, h1⟩
    exact ⟨p, o, h1, a.gn p o h3 nc h2, a.keep p o h3 nc, h4.mono a.gg⟩
theorem Aft.wide {C C' D : Addr → Prop} (a : Aft C C' G H G' H') (h : ∀ b, C b → D b) : Aft D D G H G' H' :=
  ⟨a.gg, fun p o e n => a.keep p o e fun c => n (h p c), fun p o e n g => a.gn p o e (fun c => n (h p c)) g, a.there, fun _ c => .inl c⟩
end

/-! ### targets -/
abbrev DenG := T → REnv → Option REnv
/-- what is known of the slots behind a target: those of as alone have changed -/
structure Slots (as : List Nat) (σ σ' : L2.St) : Prop where
  len : σ'.length = σ.length
  keep : ∀ i, i ∉ as → σ'[i]? = σ[i]?
theorem Slots.refl {as : List Nat} {σ : L2.St} : Slots as σ σ := ⟨rfl, fun _ _ => rfl⟩
theorem Slots.trans {as bs : List Nat} {σ σ1 σ2 : L2.St} (a : Slots as σ σ1) (b : Slots bs σ1 σ2) : Slots (as ++ bs) σ σ2 :=
  ⟨b.len.trans a.len, fun i h => (b.keep i fun z => h (List.mem_append_right _ z)).trans (a.keep i fun z => h (List.mem_append_left _ z))⟩
theorem Slots.mono {as bs : List Nat} {σ σ' : L2.St} (a : Slots as σ σ') (h : ∀ i ∈ as, i ∈ bs) : Slots bs σ σ' := ⟨a.len, fun i n => a.keep i fun z => n (h i z)⟩
theorem Slots.set {i : Nat} {σ : L2.St} {v : Option V} : Slots [i] σ (σ.set i v) := ⟨by simp, fun j h => List.getElem?_set_ne fun z => h (by simp [z])⟩
theorem wipe_get (σ : L2.St) : ∀ (vs : List Nat) (i : Nat), (wipe σ vs)[i]? = if i ∈ vs then (if i < σ.length then some none else none) else σ[i]?
  | [], i => by simp [wipe]
  | v :: vs, i => by
    unfold wipe
    by_cases h : v = i
    · subst h
      rw [if_pos (List.mem_cons_self)]
      by_cases hl : v < σ.length
      · rw [if_pos hl, List.getElem?_set_self (by rw [wipe_length]; exact hl)]
      · rw [if_neg hl]
        exact List.getElem?_eq_none (by rw [List.length_set, wipe_length]; omega)
    · rw [List.getElem?_set_ne h, wipe_get σ vs i]
      by_cases hm : i ∈ vs
      · rw [if_pos hm, if_pos (List.mem_cons_of_mem _ hm)]
      · rw [if_neg hm, if_neg]
        intro z
        rcases List.mem_cons.mp z with z | z
        · exact h z.symm
        · exact hm z
theorem Slots.wiped {as vs : List Nat} {σ σ' : L2.St} (a : Slots as σ σ') (h : ∀ i ∈ as, i ∈ vs) : wipe σ' vs = wipe σ vs := by
  apply List.ext_getElem?
  intro i
  rw [wipe_get, wipe_get, a.len]
  split
  · rfl
  · rename_i n
    exact a.keep i fun z => n (h i z)
def tDG (K : PySem.W.Frag) (fa : Nat → Addr) (as : List Nat) (g : DenG) : TG := fun v σ H Q => ∃ (G : Hp) (ρ : REnv) (x : T) (ρ' : REnv), EnvOk K fa G H σ ρ ∧ Rep K fa G v x ∧ g x ρ = some ρ' ∧
  ∀ σ', EnvOk K fa G H σ' ρ' → (∀ a, Cl σ' ρ' a → Cl σ ρ a) → Slots as σ σ' → Q σ' H
def SG (X : Cx) (fa : Nat → Addr) (tg : Expr) (as : List Nat) (g : DenG) : Prop := PG X tg (tDG X.K fa as g)
def gNameT (i : Nat) : DenG := fun x ρ => if i < ρ.length then some (ρ.set i (.t x)) else none
/-- several targets one after the other -/
abbrev DenGs := List T → REnv → Option REnv
def tDGs (K : PySem.W.Frag) (fa : Nat → Addr) (as : List Nat) (g : DenGs) : TGs := fun vs σ H Q => ∃ (G : Hp) (ρ : REnv) (xs : List T) (ρ' : REnv), EnvOk K fa G H σ ρ ∧ RepAll K fa G vs xs ∧ g xs ρ = some ρ' ∧
  ∀ σ', EnvOk K fa G H σ' ρ' → (∀ a, Cl σ' ρ' a → Cl σ ρ a) → Slots as σ σ' → Q σ' H
def SGs (X : Cx) (fa : Nat → Addr) (ts : List Expr) (as : List Nat) (g : DenGs) : Prop := PGs X ts (tDGs X.K fa as g)
def gNilT : DenGs := fun xs ρ => match xs with | [] => some ρ | _ => none
def gConsT (g : DenG) (gs : DenGs) : DenGs := fun xs ρ => match xs with | [] => none | x :: r => (g x ρ).bind (gs r)
def gTupT (n : Nat) (gs : DenGs) : DenG := fun x ρ => match x with
  | .tup xs => if xs.length = n then gs xs ρ else none
  | _ => none
section
variable {X : Cx} {fa : Nat → Addr} {e tg : Expr} {es : List Expr} {pos : Pos}
theorem SG.name {i : Nat} {x : Str} (hN : X.N.Nodup) (hi : X.N[i]? = some x) (hx : Loc X.env.scope x) (hf : X.fn x = true ∨ X.env.scope.names.lookup x = some .local) : SG X fa (.Name x pos) [i] (gNameT i) := by
  have p : PG X (.Name x pos) (gName i) := pg_name hN hi hx hf
  refine ⟨fun pins s σ H v u Q I r ⟨G, ρ, y, ρ', E, ry, hg, k⟩ => p.run pins s σ H v u Q I r ?_⟩
  unfold gNameT at hg
  split at hg
  · rename_i hl
    cases hg
    exact k _ (E.set_t hl ry) (fun a h => Cl.set_t (fun c z => by cases z) h) Slots.set
  · cases hg
theorem SGs.nil : SGs X fa [] [] gNilT := ⟨fun pins s σ H vs us Q I r ⟨G, ρ, xs, ρ', E, rx, hg, k⟩ => by
  cases xs with
  | nil =>
    cases hg
    cases rx
    exact pgs_nil.run pins s σ H [] us Q I r ⟨rfl, k σ E (fun _ h => h) Slots.refl⟩
  | cons x xs => cases hg⟩
theorem SGs.cons {as bs : List Nat} {g : DenG} {gs : DenGs} (h1 : SG X fa e as g) (h2 : SGs X fa es bs gs) (hs : (assignEach (e :: es) X.env).map (·.2) = assign e X.env :: (assignEach es X.env).map (·.2)) : SGs X fa (e :: es) (as ++ bs) (gConsT g gs) :=
  ⟨fun pins s σ H vs us Q I r ⟨G, ρ, xs, ρ', E, rx, hg, k⟩ => by
  refine (pgs_cons h1 h2 hs).run pins s σ H vs us Q I r ?_
  cases xs with
  | nil => cases hg
  | cons x xs =>
    cases rx with
    | @cons v vs _ _ a b =>
      cases q : g x ρ with
      | none => simp [gConsT, q] at hg
      | some ρ1 =>
        simp [gConsT, q] at hg
        exact ⟨v, vs, rfl, G, ρ, x, ρ1, E, a, q, fun σ1 E1 c1 s1 => ⟨G, ρ1, xs, ρ', E1, b, hg, fun σ2 E2 c2 s2 => k σ2 E2 (fun a h => c1 a (c2 a h)) (s1.trans s2)⟩⟩⟩
theorem SG.tup {as : List Nat} {gs : DenGs} {kk n : Nat} (hc : X.calm = true) (h : SGs X fa es as gs) (hn : (assignEach es X.env).length = n) (hst : (assignEach es X.env).findIdx? (·.1) = none) : SG X fa (.Tuple es kk pos) as (gTupT n gs) :=
  ⟨fun pins s σ H v u Q I r ⟨G, ρ, x, ρ', E, rx, hg, k⟩ => by
  refine (pg_tup hc h hn hst).run pins s σ H v u Q I r ?_
  unfold gTupT at hg
  split at hg
  · rename_i xs
    split at hg
    · rename_i hl
      cases rx with
      | tup s1 a =>
        exact ⟨_, _, rfl, same_sqT E.same s1, by rw [a.length]; exact hl, G, ρ, xs, ρ', E, a, hg, k⟩
    · cases hg
  · cases hg⟩
end

/-! ### what a loop walks -/
def Non : Addr → Prop := fun _ => False
structure Walks (K : PySem.W.Frag) (fa : Nat → Addr) (J : It) (bs : List Addr) (xs : List T) (Kp : Hp → Hp → Prop) : Prop where
  go : ∀ (i : Nat) (G H : Hp) (x : T), Kp G H → Same G H → xs[i]? = some x → J.go i H ∧ ∀ v H', J.yld i H v H' → ∃ G', Aft Non Non G H G' H' ∧ Same G' H' ∧ Rep K fa G' v x
  stop : ∀ (i : Nat) (G H : Hp), Kp G H → Same G H → xs.length ≤ i → J.stop i H
  stb : ∀ (C C' : Addr → Prop) (G H G' H' : Hp), Kp G H → Aft C C' G H G' H' → (∀ b ∈ bs, ¬ C b) → Kp G' H'
def hideO (ho : Option Nat) (ρ : REnv) : REnv := match ho with
  | none => ρ
  | some i => ρ.set i .un
abbrev DenI := REnv → Option (List T × Option Nat × REnv)
def SI (X : Cx) (fa : Nat → Addr) (tg iter : Expr) (d : DenI) : Prop :=
  ∃ wi : TI, PI X tg iter wi ∧ ∀ (σ : L2.St) (G H : Hp) (ρ : REnv) (xs : List T) (ho : Option Nat) (ρ' : REnv) (R : It → Hp → Prop), EnvOk X.K fa G H σ ρ → d ρ = some (xs, ho, ρ') →
    (∀ J bs Kp G' H', At X.K fa (Cl σ ρ) G H G' H' σ ρ' → Walks X.K fa J bs xs Kp → Kp G' H' → (∀ b ∈ bs, H' b ≠ none ∧ ¬ Cl σ (hideO ho ρ') b) → R J H') → wi σ H R
section
variable {K : PySem.W.Frag} {fa : Nat → Addr}
theorem Aft.same {G H : Hp} : Aft Non Non G H G H := ⟨Same.refl _, fun _ _ h _ => h, fun _ _ _ _ h => h, fun _ h => h, fun _ h => h.elim⟩
/-- a list that stays, tracked, not the frozen part's -/
theorem walks_own {a : Addr} {vs : List V} {xs : List T} : Walks K fa (Itl K a) [a] xs (fun G H => H a = some (.lst vs) ∧ RepAll K fa G vs xs) where
  go := fun i G H x ⟨h, r⟩ s e => by
    obtain ⟨v, h1, h2⟩ := r.get e
    refine ⟨⟨vs, v, .of h, h1⟩, fun w H' hy => ?_⟩
    obtain ⟨rfl, f⟩ := hy
    have : w = v := Option.some.inj ((f vs (.of h)).symm.trans h1)
    subst this
    exact ⟨G, Aft.same, s, h2⟩
  stop := fun i G H ⟨h, r⟩ s hi => ⟨vs, .of h, by rw [r.length]; exact hi⟩
  stb := fun C C' G H G' H' ⟨h, r⟩ a n => ⟨a.keep _ _ h (n _ (by simp)), r.mono a.gg⟩
theorem walks_l {a : Addr} {vs : List V} {xs : List T} : Walks K fa (Itl K a) [] xs (fun G H => SqL K G a vs ∧ RepAll K fa G vs xs) where
  go := fun i G H x ⟨h, r⟩ s e => by
    obtain ⟨v, h1, h2⟩ := r.get e
    refine ⟨⟨vs, v, s.seq h, h1⟩, fun w H' hy => ?_⟩
    obtain ⟨rfl, f⟩ := hy
    have : w = v := Option.some.inj ((f vs (s.seq h)).symm.trans h1)
    subst this
    exact ⟨G, Aft.same, s, h2⟩
  stop := fun i G H ⟨h, r⟩ s hi => ⟨vs, s.seq h, by rw [r.length]; exact hi⟩
  stb := fun C C' G H G' H' ⟨h, r⟩ a n => ⟨a.gg.seq h, r.mono a.gg⟩
end
end LW
namespace LW
open PySem PySem.Spec PyProof.Rows L2

section
variable {K : PySem.W.Frag} {fa : Nat → Addr}
theorem walks_t {a : Addr} {vs : List V} {xs : List T} : Walks K fa (Itt K a) [] xs (fun G H => SqT K G a vs ∧ RepAll K fa G vs xs) where
  go := fun i G H x ⟨h, r⟩ s e => by
    obtain ⟨v, h1, h2⟩ := r.get e
    refine ⟨⟨vs, v, same_sqT s h, h1⟩, fun w H' hy => ?_⟩
    obtain ⟨rfl, f⟩ := hy
    have : w = v := Option.some.inj ((f vs (same_sqT s h)).symm.trans h1)
    subst this
    exact ⟨G, Aft.same, s, h2⟩
  stop := fun i G H ⟨h, r⟩ s hi => ⟨vs, same_sqT s h, by rw [r.length]; exact hi⟩
  stb := fun C C' G H G' H' ⟨h, r⟩ a n => ⟨same_sqT a.gg h, r.mono a.gg⟩
def signs (x : Str) : List T := x.cps.toList.map fun c => .str (sign1 c)
theorem walks_s {x : Str} : Walks K fa (Its x) [] (signs x) (fun _ _ => True) where
  go := fun i G H y _ s e => by
    have hi : i < x.cps.toList.length := by
      have := (List.getElem?_eq_some_iff.mp e).1
      simpa [signs] using this
    have e2 : x.cps[i]? = some x.cps.toList[i] := by simp
    refine ⟨(show i < x.cps.size by simpa using hi), fun w H' hy => ?_⟩
    obtain ⟨rfl, c, h1, rfl⟩ := hy
    refine ⟨G, Aft.same, s, ?_⟩
    have : y = .str (sign1 c) := by
      simp only [signs, List.getElem?_map] at e
      rw [Array.getElem?_toList, h1] at e
      simpa using e.symm
    subst this
    exact .str _
  stop := fun i G H _ s hi => by
    show x.cps.size ≤ i
    simpa [signs] using hi
  stb := fun _ _ _ _ _ _ _ _ _ => trivial
def rangeT (lo c : Int) (n : Nat) : List T := (List.range n).map fun i => .int (lo + (i : Nat) * c)
theorem walks_r {lo c : Int} {n : Nat} : Walks K fa (Itc lo c n) [] (rangeT lo c n) (fun _ _ => True) where
  go := fun i G H y _ s e => by
    have hi : i < n := by
      have := (List.getElem?_eq_some_iff.mp e).1
      simpa [rangeT] using this
    refine ⟨hi, fun w H' hy => ?_⟩
    obtain ⟨rfl, rfl⟩ := hy
    refine ⟨G, Aft.same, s, ?_⟩
    have : y = .int (lo + (i : Nat) * c) := by
      simp [rangeT, hi] at e
      exact e.symm
    subst this
    exact .int _
  stop := fun i G H _ s hi => by
    show n ≤ i
    simpa [rangeT] using hi
  stb := fun _ _ _ _ _ _ _ _ _ => trivial
def rangeU (lo : Int) (n : Nat) : List T := (List.range n).map fun i => .int (lo + (i : Nat))
theorem walks_u {lo : Int} {n : Nat} : Walks K fa (Itr lo n) [] (rangeU lo n) (fun _ _ => True) where
  go := fun i G H y _ s e => by
    have hi : i < n := by
      have := (List.getElem?_eq_some_iff.mp e).1
      simpa [rangeU] using this
    refine ⟨hi, fun w H' hy => ?_⟩
    obtain ⟨rfl, rfl⟩ := hy
    refine ⟨G, Aft.same, s, ?_⟩
    have : y = .int (lo + (i : Nat)) := by
      simp [rangeU, hi] at e
      exact e.symm
    subst this
    exact .int _
  stop := fun i G H _ s hi => by
    show n ≤ i
    simpa [rangeU] using hi
  stb := fun _ _ _ _ _ _ _ _ _ => trivial
/-- a tuple just made by the iterator -/
theorem yld_tup {G H : Hp} {T0 : Addr} {ys : List V} {ts : List T} (s : Same G H) (n : H T0 = none) (r : RepAll K fa G ys ts) :
    ∃ G', Aft Non Non G H G' (upd H T0 (.tup ys)) ∧ Same G' (upd H T0 (.tup ys)) ∧ Rep K fa G' (.ref T0) (.tup ts) := by
  have E : EnvOk K fa G H [] [] := ⟨s, rfl, fun i x e => by simp at e, fun i c e => by simp at e, fun i j c c' a e => by simp at e⟩
  have cn : ∀ a, ¬ Cl [] [] a := fun a ⟨i, c, e, _⟩ => by simp at e
  obtain ⟨A, R⟩ := (At.start E).newTup n r
  refine ⟨_, ⟨A.aft.gg, fun p o e _ => A.aft.keep p o e (cn p), fun p o e _ g => A.aft.gn p o e (cn p) g, A.aft.there, fun _ h => h.elim⟩, A.env.same, R⟩
def enumT (xs : List T) : List T := xs.zipIdx.map fun p => .tup [.int (p.2 : Nat), p.1]
theorem enumT_get {xs : List T} {i : Nat} {y : T} (h : (enumT xs)[i]? = some y) : ∃ x, xs[i]? = some x ∧ y = .tup [.int (i : Nat), x] := by
  simp only [enumT, List.getElem?_map, List.getElem?_zipIdx] at h
  cases q : xs[i]? with
  | none => simp [q] at h
  | some x =>
    simp [q] at h
    exact ⟨x, rfl, h.symm⟩
theorem enumT_len (xs : List T) : (enumT xs).length = xs.length := by simp [enumT]
theorem walks_en {a : Addr} {vs : List V} {xs : List T} {bs : List Addr} {Kp : Hp → Hp → Prop} (hk : ∀ G H, Kp G H → Same G H → SqL K H a vs ∧ RepAll K fa G vs xs)
    (stb : ∀ (C C' : Addr → Prop) (G H G' H' : Hp), Kp G H → Aft C C' G H G' H' → (∀ b ∈ bs, ¬ C b) → Kp G' H') : Walks K fa (Ite K a) bs (enumT xs) Kp where
  go := fun i G H y kp s e => by
    obtain ⟨h, r⟩ := hk G H kp s
    obtain ⟨x, ex, rfl⟩ := enumT_get e
    obtain ⟨v, h1, h2⟩ := r.get ex
    refine ⟨⟨vs, v, h, h1⟩, fun w H' hy => ?_⟩
    obtain ⟨T0, z, rfl, n, rfl, f⟩ := hy
    have : z = v := Option.some.inj ((f vs h).symm.trans h1)
    subst this
    exact yld_tup s n (.cons (.int _) (.one h2))
  stop := fun i G H kp s hi => by
    obtain ⟨h, r⟩ := hk G H kp s
    exact ⟨vs, h, by rw [r.length]; rw [enumT_len] at hi; exact hi⟩
  stb := stb
def zipT : List T → List T → List T
  | x :: xs, y :: ys => .tup [x, y] :: zipT xs ys
  | _, _ => []
theorem zipT_get : ∀ {xs ys : List T} {i : Nat} {z : T}, (zipT xs ys)[i]? = some z → ∃ x y, xs[i]? = some x ∧ ys[i]? = some y ∧ z = .tup [x, y]
  | [], ys, i, z, h => by simp [zipT] at h
  | x :: xs, [], i, z, h => by simp [zipT] at h
  | x :: xs, y :: ys, 0, z, h => by
    simp [zipT] at h
    exact ⟨x, y, rfl, rfl, h.symm⟩
  | x :: xs, y :: ys, i + 1, z, h => by
    simp only [zipT, List.getElem?_cons_succ] at h
    obtain ⟨a, b, h1, h2, h3⟩ := zipT_get h
    exact ⟨a, b, by simpa using h1, by simpa using h2, h3⟩
theorem zipT_end : ∀ {xs ys : List T} {i : Nat}, (zipT xs ys).length ≤ i → xs.length ≤ i ∨ ys.length ≤ i
  | [], ys, i, h => .inl (by simp)
  | x :: xs, [], i, h => .inr (by simp)
  | x :: xs, y :: ys, 0, h => by simp [zipT] at h
  | x :: xs, y :: ys, i + 1, h => by
    simp only [zipT, List.length_cons] at h ⊢
    rcases zipT_end (xs := xs) (ys := ys) (i := i) (by omega) with z | z
    · exact .inl (by omega)
    · exact .inr (by omega)
theorem walks_z {a b : Addr} {vs ws : List V} {xs ys : List T} {bs : List Addr} {Kp : Hp → Hp → Prop} (hk : ∀ G H, Kp G H → Same G H → SqL K H a vs ∧ RepAll K fa G vs xs ∧ SqL K H b ws ∧ RepAll K fa G ws ys)
    (stb : ∀ (C C' : Addr → Prop) (G H G' H' : Hp), Kp G H → Aft C C' G H G' H' → (∀ b ∈ bs, ¬ C b) → Kp G' H') : Walks K fa (Itz K a b) bs (zipT xs ys) Kp where
  go := fun i G H y kp s e => by
    obtain ⟨h, r, h', r'⟩ := hk G H kp s
    obtain ⟨x, y, ex, ey, rfl⟩ := zipT_get e
    obtain ⟨v, h1, h2⟩ := r.get ex
    obtain ⟨v', h1', h2'⟩ := r'.get ey
    refine ⟨⟨vs, ws, v, v', h, h', h1, h1'⟩, fun w H' hy => ?_⟩
    obtain ⟨T0, z, z', rfl, n, rfl, f, f'⟩ := hy
    have : z = v := Option.some.inj ((f vs h).symm.trans h1)
    subst this
    have : z' = v' := Option.some.inj ((f' ws h').symm.trans h1')
    subst this
    exact yld_tup s n (.cons h2 (.one h2'))
  stop := fun i G H kp s hi => by
    obtain ⟨h, r, h', r'⟩ := hk G H kp s
    refine ⟨vs, ws, h, h', ?_⟩
    rw [r.length, r'.length]
    exact zipT_end hi
  stb := stb
theorem walks_zt {a b : Addr} {vs ws : List V} {xs ys : List T} : Walks K fa (RZ.ItzT K a b) [] (zipT xs ys) (fun G H => SqT K G a vs ∧ RepAll K fa G vs xs ∧ SqT K G b ws ∧ RepAll K fa G ws ys) where
  go := fun i G H y ⟨h, r, h', r'⟩ s e => by
    obtain ⟨x, y, ex, ey, rfl⟩ := zipT_get e
    obtain ⟨v, h1, h2⟩ := r.get ex
    obtain ⟨v', h1', h2'⟩ := r'.get ey
    refine ⟨⟨vs, ws, v, v', same_sqT s h, same_sqT s h', h1, h1'⟩, fun w H' hy => ?_⟩
    obtain ⟨T0, z, z', rfl, n, rfl, f, f'⟩ := hy
    have : z = v := Option.some.inj ((f vs (same_sqT s h)).symm.trans h1)
    subst this
    have : z' = v' := Option.some.inj ((f' ws (same_sqT s h')).symm.trans h1')
    subst this
    exact yld_tup s n (.cons h2 (.one h2'))
  stop := fun i G H ⟨h, r, h', r'⟩ s hi => by
    refine ⟨vs, ws, same_sqT s h, same_sqT s h', ?_⟩
    rw [r.length, r'.length]
    exact zipT_end hi
  stb := fun C C' G H G' H' ⟨h, r, h', r'⟩ a n => ⟨same_sqT a.gg h, r.mono a.gg, same_sqT a.gg h', r'.mono a.gg⟩
/-- an operand that is a list, walked: what has to stay, what is hidden from the body -/
def L.hid (ρ : REnv) : L → Option Nat
  | .ref i => some i
  | _ => none
theorem Rd_at {G H : Hp} {a : Addr} {vs : List V} (s : Same G H) (h : G a = some (.lst vs)) : SqL K H a vs := .of (s _ _ h)
/-- a list operand through a loop: its address, and a condition that stays -/
theorem stays {C0 : Addr → Prop} {G0 H0 G H : Hp} {σ : L2.St} {ρ : REnv} {v : V} {l : L} {xs : List T} (O : Ops1 K fa C0 G0 H0 G H σ ρ v l) (e : l.lview ρ = some xs) :
    ∃ (a : Addr) (vs : List V) (bs : List Addr) (Kp : Hp → Hp → Prop), v = .ref a ∧ Kp G H ∧ SqL K H a vs ∧ (∀ G H, Kp G H → Same G H → SqL K H a vs ∧ RepAll K fa G vs xs) ∧
      (∀ (C C' : Addr → Prop) (G H G' H' : Hp), Kp G H → Aft C C' G H G' H' → (∀ b ∈ bs, ¬ C b) → Kp G' H') ∧ ∀ b ∈ bs, H b ≠ none ∧ ¬ Cl σ (hideO (l.hid ρ) ρ) b := by
  obtain ⟨A, r, nw⟩ := O
  cases l with
  | un => cases e
  | t y =>
    cases y with
    | lst ys =>
      cases e
      cases (show Rep K fa G v _ from r) with
      | @lst a vs _ g rr =>
        exact ⟨a, vs, [], fun G H => SqL K G a vs ∧ RepAll K fa G vs xs, rfl, ⟨.of g, rr⟩, .of (A.env.same _ _ g), fun G H ⟨h1, h2⟩ s => ⟨s.seq h1, h2⟩, fun C C' G H G' H' ⟨h1, h2⟩ a n => ⟨a.gg.seq h1, h2.mono a.gg⟩, fun b hb => by simp at hb⟩
    | _ => cases e
  | own c =>
    cases c with
    | lst ys =>
      cases e
      obtain ⟨p, o, rfl, g, n, hh, rr⟩ := r
      cases o with
      | lst vs =>
        refine ⟨p, vs, [p], fun G H => H p = some (.lst vs) ∧ RepAll K fa G vs xs, rfl, ⟨hh, rr⟩, .of hh, fun G H ⟨h1, h2⟩ s => ⟨.of h1, h2⟩, fun C C' G H G' H' ⟨h1, h2⟩ a nn => ⟨a.keep _ _ h1 (nn p (by simp)), h2.mono a.gg⟩, fun b hb => ?_⟩
        have : b = p := by simpa using hb
        subst this
        exact ⟨by rw [hh]; simp, n⟩
      | _ => exact (show False from rr).elim
    | _ => cases e
  | ref i =>
    cases q : ρ[i]? with
    | none => simp only [L.lview, q] at e; cases e
    | some m =>
      simp only [L.lview, q] at e
      cases m with
      | own c =>
        cases c with
        | lst ys =>
          cases e
          obtain ⟨p, o, e1, e2, e3, e4⟩ := A.env.own i _ q
          have e5 : σ[i]? = some (some v) := r
          rw [e1] at e5; cases e5
          cases o with
          | lst vs =>
            refine ⟨p, vs, [p], fun G H => H p = some (.lst vs) ∧ RepAll K fa G vs xs, rfl, ⟨e3, e4⟩, .of e3, fun G H ⟨h1, h2⟩ s => ⟨.of h1, h2⟩, fun C C' G H G' H' ⟨h1, h2⟩ a nn => ⟨a.keep _ _ h1 (nn p (by simp)), h2.mono a.gg⟩, fun b hb => ?_⟩
            have : b = p := by simpa using hb
            subst this
            refine ⟨by rw [e3]; simp, fun ⟨j, c, f1, f2⟩ => ?_⟩
            have f1 : (ρ.set i .un)[j]? = some (.own c) := f1
            rcases set_get f1 with ⟨_, z⟩ | ⟨n, z⟩
            · cases z
            · exact n (A.env.inj j i _ _ _ z q f2 e1)
          | _ => exact (show False from e4).elim
        | _ => cases e
      | _ => cases e
end
section
variable {X : Cx} {fa : Nat → Addr} {e e2 tg : Expr} {d d1 d2 : Den} {pos : Pos}
/-- for x in a list, a tuple, a text -/
def iSeq (d : Den) : DenI := fun ρ => (d ρ).bind fun p => match p.1 with
  | .t (.tup xs) => some (xs, none, p.2)
  | .t (.str x) => some (signs x, none, p.2)
  | .t (.lkl xs) => some (xs, none, p.2)
  | l => (l.lview p.2).map fun xs => (xs, l.hid p.2, p.2)
theorem pi_or {w w' : TI} (h : PI X tg e w) (h' : PI X tg e w') : PI X tg e (fun σ H R => w σ H R ∨ w' σ H R) :=
  ⟨fun pins s σ H R I q => q.elim (h.run pins s σ H R I) (h'.run pins s σ H R I)⟩
theorem SI.seq (h : SE X fa e d) : SI X fa tg e (iSeq d) := by
  have p := h.pe
  refine ⟨_, pi_or (pi_list p) (pi_or (pi_tup p) (pi_str p)), fun σ G H ρ xs ho ρ' R E hd k => ?_⟩
  cases q : d ρ with
  | none => simp [iSeq, q] at hd
  | some z =>
    simp only [iSeq, q, Option.bind_some] at hd
    split at hd
    · rename_i ys ez
      cases hd
      refine .inr (.inl ⟨G, ρ, z.1, z.2, E, q, fun v G' H' P => ?_⟩)
      have rp := P.rep
      rw [ez] at rp
      cases (show Rep X.K fa G' v _ from rp) with
      | @tup a vs _ s r => exact ⟨a, rfl, ⟨vs, same_sqT P.env.same s⟩, k _ _ _ _ _ ⟨P.env, P.aft⟩ walks_t ⟨s, r⟩ fun b hb => by simp at hb⟩
    · rename_i y ez
      cases hd
      refine .inr (.inr ⟨G, ρ, z.1, z.2, E, q, fun v G' H' P => ?_⟩)
      have rp := P.rep
      rw [ez] at rp
      exact ⟨y, Rep.str_inv rp, k _ _ _ _ _ ⟨P.env, P.aft⟩ walks_s trivial fun b hb => by simp at hb⟩
    · rename_i ys ez
      cases hd
      refine .inl ⟨G, ρ, z.1, z.2, E, q, fun v G' H' P => ?_⟩
      have rp := P.rep
      rw [ez] at rp
      cases (show Rep X.K fa G' v _ from rp) with
      | @lkl a vs _ s r => exact ⟨a, rfl, ⟨vs, P.env.same.seq s⟩, k _ _ _ _ _ ⟨P.env, P.aft⟩ walks_l ⟨s, r⟩ fun b hb => by simp at hb⟩
    · cases q1 : z.1.lview z.2 with
      | none => simp [q1] at hd
      | some ys =>
        simp [q1] at hd
        obtain ⟨rfl, rfl, rfl⟩ := hd
        refine .inl ⟨G, ρ, z.1, z.2, E, q, fun v G' H' P => ?_⟩
        obtain ⟨a, vs, bs, Kp, rfl, kp, sq, hk, stb, hb⟩ := stays P.ops1 q1
        refine ⟨a, rfl, ⟨vs, sq⟩, k _ bs Kp _ _ ⟨P.env, P.aft⟩ ⟨fun i G H x kq s e => ?_, fun i G H kq s hi => ?_, stb⟩ kp hb⟩
        · obtain ⟨h1, h2⟩ := hk G H kq s
          obtain ⟨v, f1, f2⟩ := h2.get e
          refine ⟨⟨vs, v, h1, f1⟩, fun w H' hy => ?_⟩
          obtain ⟨rfl, f⟩ := hy
          have : w = v := Option.some.inj ((f vs h1).symm.trans f1)
          subst this
          exact ⟨G, Aft.same, s, f2⟩
        · obtain ⟨h1, h2⟩ := hk G H kq s
          exact ⟨vs, h1, by rw [h2.length]; exact hi⟩
/-- range -/
def big : Int := 4611686018427387904
def inBig (i : Int) : Bool := decide (-big ≤ i) && decide (i < big)
theorem inBig_of {i : Int} (h : inBig i = true) : -(2 ^ 62) ≤ i ∧ i < 2 ^ 62 := by
  simp only [inBig, Bool.and_eq_true, decide_eq_true_eq] at h
  exact ⟨h.1, h.2⟩
def iRange1 (d : DenA) : DenI := fun ρ => (d ρ).bind fun p => match p.1 with
  | [.int j] => if inBig j then some (rangeU 0 j.toNat, none, p.2) else none
  | _ => none
def iRange2 (d : DenA) : DenI := fun ρ => (d ρ).bind fun p => match p.1 with
  | [.int i, .int j] => if inBig i && inBig j then some (rangeU i (j - i).toNat, none, p.2) else none
  | _ => none
theorem SI.range1 {a : Expr} {d : DenA} {p : Pos} (hg : Gl X "range") (hm : X.mg "range" = none) (ha : SA X fa [a] d) (hs : starEach [a] X.env = [(false, eval a X.env)]) : SI X fa tg (.Call (.Name "range" p) [a] [] pos) (iRange1 d) := by
  obtain ⟨t, pa, r⟩ := ha
  refine ⟨_, pi_range1 hg hm pa hs, fun σ G H ρ xs ho ρ' R E hd k => ?_⟩
  cases q : d ρ with
  | none => simp [iRange1, q] at hd
  | some z =>
    simp only [iRange1, q, Option.bind_some] at hd
    split at hd
    · rename_i j ez
      split at hd
      · rename_i hb
        cases hd
        refine r σ G H ρ z.1 z.2 _ E q fun vs G' H' A rr => ?_
        rw [ez] at rr
        have hv : vs = [V.int j] := RepAll.ints (ns := [j]) rr
        have hb := inBig_of hb
        exact ⟨j, hv, hb.1, hb.2, k _ _ _ _ _ A walks_u trivial fun b hb => by simp at hb⟩
      · cases hd
    · cases hd
theorem SI.range2 {a b : Expr} {d : DenA} {p : Pos} (hg : Gl X "range") (hm : X.mg "range" = none) (ha : SA X fa [a, b] d) (hs : starEach [a, b] X.env = [(false, eval a X.env), (false, eval b X.env)]) (hs2 : starEach [b] X.env = [(false, eval b X.env)]) :
    SI X fa tg (.Call (.Name "range" p) [a, b] [] pos) (iRange2 d) := by
  obtain ⟨t, pa, r⟩ := ha
  refine ⟨_, pi_range2 hg hm pa hs hs2, fun σ G H ρ xs ho ρ' R E hd k => ?_⟩
  cases q : d ρ with
  | none => simp [iRange2, q] at hd
  | some z =>
    simp only [iRange2, q, Option.bind_some] at hd
    split at hd
    · rename_i i j ez
      split at hd
      · rename_i hb
        cases hd
        refine r σ G H ρ z.1 z.2 _ E q fun vs G' H' A rr => ?_
        rw [ez] at rr
        have hv : vs = [V.int i, V.int j] := RepAll.ints (ns := [i, j]) rr
        simp only [Bool.and_eq_true] at hb
        have h1 := inBig_of hb.1
        have h2 := inBig_of hb.2
        exact ⟨i, j, hv, ⟨h1.1, h1.2, h2.1, h2.2⟩, k _ _ _ _ _ A walks_u trivial fun b hb => by simp at hb⟩
      · cases hd
    · cases hd
/-- enumerate of a list -/
def iEnumT (d : Den) : DenI := fun ρ => (d ρ).bind fun p => (p.1.lview p.2).map fun xs => (enumT xs, p.1.hid p.2, p.2)
theorem SI.enum {elts : List Expr} {kk : Nat} {p tpos : Pos} (hg : Gl X "enumerate") (hm : X.mg "enumerate" = none) (h : SE X fa e d) (hs : starEach [e] X.env = [(false, eval e X.env)]) (hs' : starEach (e :: []) X.env = (false, eval e X.env) :: starEach [] X.env) :
    SI X fa (.Tuple elts kk tpos) (.Call (.Name "enumerate" p) [e] [] pos) (iEnumT d) := by
  refine ⟨_, pi_enum hg hm (pa_cons h.pe pa_nil hs') hs, fun σ G H ρ xs ho ρ' R E hd k => ?_⟩
  cases q : d ρ with
  | none => simp [iEnumT, q] at hd
  | some z =>
    cases q1 : z.1.lview z.2 with
    | none => simp [iEnumT, q, q1] at hd
    | some ys =>
      simp [iEnumT, q, q1] at hd
      obtain ⟨rfl, rfl, rfl⟩ := hd
      refine ⟨G, ρ, z.1, z.2, E, q, fun v G' H' P => ?_⟩
      obtain ⟨a, vs, bs, Kp, rfl, kp, sq, hk, stb, hb⟩ := stays P.ops1 q1
      exact ⟨a, vs, rfl, sq, k _ bs Kp _ _ ⟨P.env, P.aft⟩ (walks_en hk stb) kp hb⟩
/-- zip of two lists, of two tuples -/
def iZipT (d1 d2 : Den) : DenI := fun ρ => (d1 ρ).bind fun p => (d2 p.2).bind fun q => match p.1, q.1 with
  | .t (.tup xs), .t (.tup ys) => some (zipT xs ys, none, q.2)
  | l, .ref _ => none
  | l, m => (l.lview q.2).bind fun xs => (m.lview q.2).map fun ys => (zipT xs ys, l.hid q.2, q.2)
theorem SI.zip {elts : List Expr} {kk : Nat} {p tpos : Pos} (hg : Gl X "zip") (hm : X.mg "zip" = none) (h1 : SE X fa e d1) (h2 : SE X fa e2 d2) (hs : starEach [e, e2] X.env = (false, eval e X.env) :: starEach [e2] X.env) (hpl : (backTo pos (starEach [e2] X.env)).any (·.1) = false)
    (hs2 : starEach [e2] X.env = (false, eval e2 X.env) :: starEach [] X.env) : SI X fa (.Tuple elts kk tpos) (.Call (.Name "zip" p) [e, e2] [] pos) (iZipT d1 d2) := by
  refine ⟨_, RZ.pi_zipA hg hm (pa_cons h1.pe (pa_cons h2.pe pa_nil hs2) hs) hs hpl, fun σ G H ρ xs ho ρ' R E hd k => ?_⟩
  cases q : d1 ρ with
  | none => simp [iZipT, q] at hd
  | some z =>
    cases q' : d2 z.2 with
    | none => simp [iZipT, q, q'] at hd
    | some z' =>
      simp only [iZipT, q, q', Option.bind_some] at hd
      refine ⟨G, ρ, z.1, z.2, E, q, fun v G1 H1 P => ⟨G1, z.2, z'.1, z'.2, P.env, q', fun v' G2 H2 P' => ?_⟩⟩
      have O := P.then2 P'
      split at hd
      · rename_i ys ys' e1 e2
        cases hd
        have r1 := O.r1
        have r2 := O.r2
        rw [e1] at r1
        rw [e2] at r2
        cases (show Rep X.K fa G2 v _ from r1) with
        | @tup a vs _ s r =>
          cases (show Rep X.K fa G2 v' _ from r2) with
          | @tup b ws _ s' r' =>
            exact ⟨a, b, vs, ws, rfl, .inr ⟨same_sqT O.env.same s, same_sqT O.env.same s', k _ _ _ _ _ O.toAt walks_zt ⟨s, r, s', r'⟩ fun b hb => by simp at hb⟩⟩
      · cases hd
      · rename_i nr nt
        cases q1 : z.1.lview z'.2 with
        | none => simp [q1] at hd
        | some ys =>
          cases q2 : z'.1.lview z'.2 with
          | none => simp [q1, q2] at hd
          | some ys' =>
            simp [q1, q2] at hd
            obtain ⟨rfl, rfl, rfl⟩ := hd
            obtain ⟨a, vs, bs, Kp, rfl, kp, sq, hk, stb, hb⟩ := stays ⟨O.toAt, O.r1, O.n1⟩ q1
            obtain ⟨a', vs', bs', Kp', rfl, kp', sq', hk', stb', hb'⟩ := stays ⟨O.toAt, O.r2, O.n2⟩ q2
            have hid2 : z'.1.hid z'.2 = none := by
              cases hz : z'.1 with
              | ref i => exact absurd hz (nr i)
              | _ => rfl
            refine ⟨a, a', vs, vs', rfl, .inl ⟨sq, sq', k _ (bs ++ bs') (fun G H => Kp G H ∧ Kp' G H) _ _ O.toAt (walks_z (vs := vs) (ws := vs') (fun G H ⟨h1, h2⟩ s => ?_) (fun C C' G H G' H' ⟨h1, h2⟩ a n => ?_)) ⟨kp, kp'⟩ fun b hbb => ?_⟩⟩
            · obtain ⟨f1, f2⟩ := hk G H h1 s
              obtain ⟨f3, f4⟩ := hk' G H h2 s
              exact ⟨f1, f2, f3, f4⟩
            · exact ⟨stb C C' G H G' H' h1 a fun b hb => n b (List.mem_append_left _ hb), stb' C C' G H G' H' h2 a fun b hb => n b (List.mem_append_right _ hb)⟩
            · rcases List.mem_append.mp hbb with h | h
              · exact hb b h
              · obtain ⟨f1, f2⟩ := hb' b h
                rw [hid2] at f2
                refine ⟨f1, fun z => f2 ?_⟩
                cases hz : z'.1 with
                | ref i => exact absurd hz (nr i)
                | _ =>
                  revert z
                  unfold hideO
                  split
                  · exact fun z => z
                  · exact fun z => Cl.hide z
end
end LW
namespace LW
open PySem PySem.Spec PyProof.Rows L2

/-! ### slots wiped and put back -/
def wipeE (ρ : REnv) : List Nat → REnv
  | [] => ρ
  | v :: vs => (wipeE ρ vs).set v .un
theorem wipeE_len (ρ : REnv) : ∀ vs : List Nat, (wipeE ρ vs).length = ρ.length
  | [] => rfl
  | v :: vs => by unfold wipeE; rw [List.length_set, wipeE_len ρ vs]
theorem wipeE_get {ρ : REnv} : ∀ {vs : List Nat} {i : Nat} {l : L}, (wipeE ρ vs)[i]? = some l → (i ∈ vs ∧ l = .un) ∨ (i ∉ vs ∧ ρ[i]? = some l)
  | [], i, l, h => .inr ⟨by simp, h⟩
  | v :: vs, i, l, h => by
    unfold wipeE at h
    rcases set_get h with ⟨rfl, z⟩ | ⟨n, z⟩
    · exact .inl ⟨List.mem_cons_self, z⟩
    · rcases wipeE_get z with ⟨h1, h2⟩ | ⟨h1, h2⟩
      · exact .inl ⟨List.mem_cons_of_mem _ h1, h2⟩
      · refine .inr ⟨fun z => ?_, h2⟩
        rcases List.mem_cons.mp z with e | e
        · exact n e
        · exact h1 e
theorem wipe_out {σ : L2.St} {vs : List Nat} {i : Nat} (h : i ∉ vs) : (wipe σ vs)[i]? = σ[i]? := by rw [wipe_get, if_neg h]
section
variable {K : PySem.W.Frag} {fa : Nat → Addr} {G H G' H' : Hp} {σ σ' : L2.St} {ρ ρ' ρ1 ρ2 : REnv}
theorem EnvOk.wipe (E : EnvOk K fa G H σ ρ) (vs : List Nat) : EnvOk K fa G H (L2.wipe σ vs) (wipeE ρ vs) := by
  refine ⟨E.same, by rw [wipeE_len, wipe_length]; exact E.len, fun i x e => ?_, fun i c e => ?_, fun i j c c' a e1 e2 e3 e4 => ?_⟩
  · rcases wipeE_get e with ⟨_, z⟩ | ⟨h1, h2⟩
    · cases z
    · rw [wipe_out h1]; exact E.t i x h2
  · rcases wipeE_get e with ⟨_, z⟩ | ⟨h1, h2⟩
    · cases z
    · rw [wipe_out h1]; exact E.own i c h2
  · rcases wipeE_get e1 with ⟨_, z⟩ | ⟨h1, h2⟩
    · cases z
    · rcases wipeE_get e2 with ⟨_, z⟩ | ⟨h3, h4⟩
      · cases z
      · rw [wipe_out h1] at e3
        rw [wipe_out h3] at e4
        exact E.inj i j c c' a h2 h4 e3 e4
theorem Cl.wipe {vs : List Nat} {a : Addr} (h : Cl (L2.wipe σ vs) (wipeE ρ vs) a) : Cl σ ρ a ∧ ∃ (i : Nat) (c : OC), i ∉ vs ∧ ρ[i]? = some (.own c) ∧ σ[i]? = some (some (.ref a)) := by
  obtain ⟨i, c, e1, e2⟩ := h
  rcases wipeE_get e1 with ⟨_, z⟩ | ⟨h1, h2⟩
  · cases z
  · rw [wipe_out h1] at e2
    exact ⟨⟨i, c, h2, e2⟩, i, c, h1, h2, e2⟩
end
def restE (ρ1 ρ2 : REnv) : List Nat → REnv
  | [] => ρ2
  | i :: ks => match ρ1[i]? with
    | some l => (restE ρ1 ρ2 ks).set i l
    | none => restE ρ1 ρ2 ks
theorem restE_len (ρ1 ρ2 : REnv) : ∀ ks : List Nat, (restE ρ1 ρ2 ks).length = ρ2.length
  | [] => rfl
  | i :: ks => by
    unfold restE
    split
    · rw [List.length_set, restE_len ρ1 ρ2 ks]
    · exact restE_len ρ1 ρ2 ks
theorem restE_get {ρ1 ρ2 : REnv} (hl : ρ1.length = ρ2.length) : ∀ {ks : List Nat} {i : Nat} {l : L}, (restE ρ1 ρ2 ks)[i]? = some l → (i ∈ ks ∧ ρ1[i]? = some l) ∨ (i ∉ ks ∧ ρ2[i]? = some l)
  | [], i, l, h => .inr ⟨by simp, h⟩
  | k :: ks, i, l, h => by
    unfold restE at h
    split at h
    · rename_i l' e
      rcases set_get h with ⟨rfl, z⟩ | ⟨n, z⟩
      · subst z
        exact .inl ⟨List.mem_cons_self, e⟩
      · rcases restE_get hl z with ⟨h1, h2⟩ | ⟨h1, h2⟩
        · exact .inl ⟨List.mem_cons_of_mem _ h1, h2⟩
        · refine .inr ⟨fun z => ?_, h2⟩
          rcases List.mem_cons.mp z with e | e
          · exact n e
          · exact h1 e
    · rename_i e
      rcases restE_get hl h with ⟨h1, h2⟩ | ⟨h1, h2⟩
      · exact .inl ⟨List.mem_cons_of_mem _ h1, h2⟩
      · refine .inr ⟨fun z => ?_, h2⟩
        rcases List.mem_cons.mp z with e' | e'
        · subst e'
          have h3 : ρ1.length ≤ i := List.getElem?_eq_none_iff.mp e
          have h4 : i < ρ2.length := (List.getElem?_eq_some_iff.mp h2).1
          omega
        · exact h1 e'

/-! ### [elt for target in iter if test] -/
def compL (vs : List Nat) (g : DenG) (dt : DenT) (de : Den) : List T → REnv → Option (List T × REnv)
  | [], ρ => some ([], ρ)
  | x :: xs, ρ => (g x ρ).bind fun ρa => (dt ρa).bind fun p =>
    if p.1 then (de p.2).bind fun q => q.1.tree.bind fun y => (compL vs g dt de xs (wipeE q.2 vs)).map fun r => (y :: r.1, r.2)
    else compL vs g dt de xs (wipeE p.2 vs)
def compD (src : DenI) (vs : List Nat) (g : DenG) (dt : DenT) (de : Den) : Den := fun ρ => (src ρ).bind fun s =>
  (compL vs g dt de s.1 (wipeE (hideO s.2.1 s.2.2) vs)).bind fun r => if r.1.length ≤ line then some (.own (.lst r.1), restE s.2.2 r.2 (s.2.1.toList ++ vs)) else none
def STs (X : Cx) (fa : Nat → Addr) (ifs : List Expr) (dt : DenT) : Prop := PTs X ifs (tDT X.K fa dt)
def dYes : DenT := fun ρ => some (true, ρ)
section
variable {X : Cx} {fa : Nat → Addr}
theorem STs.nil : STs X fa [] dYes := ⟨fun pins s σ H Q I ⟨G, ρ, b, ρ', E, hd, k⟩ => pts_nil.run pins s σ H Q I (by cases hd; exact k G H (At.start E))⟩
theorem STs.one {c : Expr} {dt : DenT} (h : ST X fa c dt) : STs X fa [c] dt := pts_one h.pt
/-- an object of one's own, outside of all slots, is changed -/
theorem At.mut {K : PySem.W.Frag} {C0 : Addr → Prop} {G0 H0 G H : Hp} {σ : L2.St} {ρ : REnv} (A : At K fa C0 G0 H0 G H σ ρ) {p : Addr} {o o' : HO} (h : H p = some o) (g : G p = none) (n : ¬ Cl σ ρ p) (nw : H0 p = none) : At K fa C0 G0 H0 G (upd H p o') σ ρ := by
  refine ⟨⟨fun b u e => ?_, A.env.len, A.env.t, fun i c e => ?_, A.env.inj⟩, ⟨A.aft.gg, fun b u e nc => ?_, A.aft.gn, fun b e => ?_, A.aft.cs⟩⟩
  · rw [upd_ne (ne_of_none e g)]; exact A.env.same b u e
  · obtain ⟨q, u, e1, e2, e3, e4⟩ := A.env.own i c e
    exact ⟨q, u, e1, e2, by rw [upd_ne (show q ≠ p from fun z => n (z ▸ ⟨i, c, e, e1⟩))]; exact e3, e4⟩
  · rw [upd_ne (ne_of_none e nw)]; exact A.aft.keep b u e nc
  · by_cases hb : b = p
    · subst hb; rw [upd_same] at e; cases e
    · rw [upd_ne hb] at e; exact A.aft.there b e
theorem mut_aft {G H : Hp} {p : Addr} {o o' : HO} (h : H p = some o) : Aft (fun a => a = p) (fun a => a = p) G H G (upd H p o') :=
  ⟨Same.refl _, fun a u e n => by rw [upd_ne n]; exact e, fun _ _ _ _ g => g, fun a e => by
    by_cases hb : a = p
    · subst hb; rw [upd_same] at e; cases e
    · rw [upd_ne hb] at e; exact e, fun _ c => .inl c⟩
theorem SE.comp {elt tg iter : Expr} {ifs : List Expr} {scope : Scope} {own : List (Str × Nat)} {pos : Pos} {src : DenI} {as : List Nat} {g : DenG} {dt : DenT} {de : Den} (hc : X.calm = true) (hN : X.N.Nodup) (hi : SI X fa tg iter src)
    (ok : BlkOk X.N X.env.scope scope own) (has : ∀ i ∈ as, i ∈ own.map (·.2))
    (hg : ∀ (s : Shared) (H : Hp) (C : Addr) (cl : List (Str × Addr)) (fp : List Addr), SG (X.blk s H scope (compEnvC scope cl C X.env) fp) fa tg as g)
    (ht : ∀ (s : Shared) (H : Hp) (C : Addr) (cl : List (Str × Addr)) (fp : List Addr), STs (X.blk s H scope (compEnvC scope cl C X.env) fp) fa ifs dt)
    (he : ∀ (s : Shared) (H : Hp) (C : Addr) (cl : List (Str × Addr)) (fp : List Addr), SE (X.blk s H scope (compEnvC scope cl C X.env) fp) fa elt de) (hs : ∀ x, foldedSetIterable iter X.env x = pure x) :
    PE X (.ListComp elt [⟨tg, iter, ifs, 0⟩] scope pos) (tD X.K fa (compD src (own.map (·.2)) g dt de)) ∧
    ∃ wi, PI X tg iter wi ∧ ∀ (σ : L2.St) (H : Hp) (Q : VK), tD X.K fa (compD src (own.map (·.2)) g dt de) σ H Q → tLc wi (tDG X.K fa as g) (tDT X.K fa dt) (tD X.K fa de) (own.map (·.2)) σ H Q := by
  obtain ⟨wi, pi, ri⟩ := hi
  have key : ∀ (σ : L2.St) (H : Hp) (Q : VK), tD X.K fa (compD src (own.map (·.2)) g dt de) σ H Q → tLc wi (tDG X.K fa as g) (tDT X.K fa dt) (tD X.K fa de) (own.map (·.2)) σ H Q := by
    rintro σ H Q ⟨G, ρ, l, ρ', E, hd, k⟩
    generalize hvs : own.map (·.2) = vs at *
    cases q0 : src ρ with
    | none => simp [compD, q0] at hd
    | some z =>
      obtain ⟨xs, ho, ρ1⟩ := z
      cases q1 : compL vs g dt de xs (wipeE (hideO ho ρ1) vs) with
      | none => simp [compD, q0, q1] at hd
      | some r =>
        obtain ⟨ys, ρ2⟩ := r
        by_cases hz : ys.length ≤ line
        · simp [compD, q0, q1, hz] at hd
          obtain ⟨rfl, rfl⟩ := hd
          refine ri σ G H ρ xs ho ρ1 _ E q0 fun J bs Kp G1 H1 A1 W kp hb D hD => ?_
          have E0 : EnvOk X.K fa G1 H1 σ (hideO ho ρ1) := by
            cases ho with
            | none => exact A1.env
            | some i => exact A1.env.hide i
          have sub0 : ∀ a, Cl σ (hideO ho ρ1) a → Cl σ ρ1 a := by
            cases ho with
            | none => exact fun a h => h
            | some i => exact fun a h => Cl.hide h
          have Ew := E0.wipe vs
          have c1sub : ∀ a, Cl (wipe σ vs) (wipeE (hideO ho ρ1) vs) a → Cl σ (hideO ho ρ1) a := fun a h => (Cl.wipe h).1
          -- D's own place
          have ncD : ¬ Cl (wipe σ vs) (wipeE (hideO ho ρ1) vs) D := (At.start Ew).noCl hD
          have gD : G1 D = none := E0.same.free hD
          refine ⟨fun i m H' => m = xs.length - i ∧ i ≤ xs.length ∧ ∃ (G' : Hp) (ρi : REnv) (acc : List V) (yd rest : List T),
            At X.K fa (Cl (wipe σ vs) (wipeE (hideO ho ρ1) vs)) G1 H1 G' H' (wipe σ vs) ρi ∧ Kp G' H' ∧ H' D = some (.lst acc) ∧ G' D = none ∧ ¬ Cl (wipe σ vs) ρi D ∧ RepAll X.K fa G' acc yd ∧
            compL vs g dt de (xs.drop i) ρi = some (rest, ρ2) ∧ yd ++ rest = ys, ⟨xs.length, by simp, Nat.zero_le _, G1, wipeE (hideO ho ρ1) vs, [], [], ys, (At.start Ew).alloc hD, ?_, upd_same, gD, ncD, .nil, by simpa using q1, rfl⟩, ?_⟩
          · -- the new list leaves what is walked
            refine W.stb (fun a => a = D) (fun a => a = D) G1 H1 G1 _ kp ⟨Same.refl _, fun a o e n => by rw [upd_ne n]; exact e, fun _ _ _ _ g => g, fun a e => ?_, fun _ c => .inl c⟩ fun b hbb z => ?_
            · by_cases hb : a = D
              · subst hb; exact hD
              · rw [upd_ne hb] at e; exact e
            · exact (hb b hbb).1 (by rw [z]; exact hD)
          · rintro i m Hi ⟨rfl, hle, Gi, ρi, acc, yd, rest, Ai, kpi, hDi, gDi, nDi, ra, hcl, hy⟩
            by_cases hlt : i < xs.length
            · have ex : xs[i]? = some xs[i] := by simp [hlt]
              obtain ⟨go, yl⟩ := W.go i Gi Hi xs[i] kpi Ai.env.same ex
              have hdrop : xs.drop i = xs[i] :: xs.drop (i + 1) := List.drop_eq_getElem_cons hlt
              rw [hdrop] at hcl
              cases qa : g xs[i] ρi with
              | none => simp [compL, qa] at hcl
              | some ρa =>
                cases qb : dt ρa with
                | none => simp [compL, qa, qb] at hcl
                | some pb =>
                  obtain ⟨b, ρb⟩ := pb
                  refine .inr ⟨go, fun H' => ∃ (G' : Hp) (ρi : REnv) (acc : List V) (yd rest : List T),
                    At X.K fa (Cl (wipe σ vs) (wipeE (hideO ho ρ1) vs)) G1 H1 G' H' (wipe σ vs) ρi ∧ Kp G' H' ∧ H' D = some (.lst acc) ∧ G' D = none ∧ ¬ Cl (wipe σ vs) ρi D ∧ RepAll X.K fa G' acc yd ∧
                    compL vs g dt de (xs.drop (i + 1)) ρi = some (rest, ρ2) ∧ yd ++ rest = ys, fun H' h => ⟨xs.length - (i + 1), by omega, rfl, hlt, h⟩, fun v H' hv => ?_⟩
                  obtain ⟨G', a1, sm, rv⟩ := yl v H' hv
                  have a1' : Aft (Cl (wipe σ vs) ρi) (Cl (wipe σ vs) ρi) Gi Hi G' H' := a1.wide fun _ h => h.elim
                  have E1 : EnvOk X.K fa G' H' (wipe σ vs) ρi := Ai.env.carry a1 sm fun _ _ h => h
                  refine ⟨G', ρi, xs[i], ρa, E1, rv, qa, fun σ2 E2 c2 s2 => ?_⟩
                  have hw : wipe σ2 vs = wipe σ vs := (s2.wiped has).trans (Slots.wiped (as := vs) ⟨wipe_length σ vs, fun j h => wipe_out h⟩ fun _ h => h)
                  refine ⟨hw, G', ρa, b, ρb, E2, qb, fun G3 H3 A3 => ?_⟩
                  have a2 : Aft (Cl (wipe σ vs) ρi) (Cl σ2 ρa) G' H' G' H' := ⟨Same.refl _, fun _ _ h _ => h, fun _ _ _ _ h => h, fun _ h => h, fun a h => .inl (c2 a h)⟩
                  have up3 := (a1'.trans a2).trans A3.aft
                  have hD3 : H3 D = some (.lst acc) := up3.keep D _ hDi nDi
                  have gD3 : G3 D = none := up3.gn D _ hDi nDi gDi
                  have nD3 : ¬ Cl σ2 ρb D := up3.ne hDi nDi
                  -- the next turn's slots
                  have nextC : ∀ (ρc : REnv) (a : Addr), Cl (wipe σ vs) (wipeE ρc vs) a → Cl σ2 ρc a := fun ρc a h => by
                    rw [← hw] at h
                    exact (Cl.wipe h).1
                  have nextE : ∀ {G H : Hp} {ρc : REnv}, EnvOk X.K fa G H σ2 ρc → EnvOk X.K fa G H (wipe σ vs) (wipeE ρc vs) := fun {G H ρc} h => by
                    have := h.wipe vs
                    rwa [hw] at this
                  have narrow : ∀ {G' H' : Hp} {ρc : REnv}, Aft (Cl (wipe σ vs) (wipeE (hideO ho ρ1) vs)) (Cl σ2 ρc) G1 H1 G' H' → Aft (Cl (wipe σ vs) (wipeE (hideO ho ρ1) vs)) (Cl (wipe σ vs) (wipeE ρc vs)) G1 H1 G' H' := fun {G' H' ρc} h =>
                    ⟨h.gg, h.keep, h.gn, h.there, fun a z => h.cs a (nextC ρc a z)⟩
                  have bsN : ∀ b ∈ bs, ¬ Cl (wipe σ vs) ρi b := fun b hbb => by
                    obtain ⟨f1, f2⟩ := hb b hbb
                    cases q : H1 b with
                    | none => exact absurd q f1
                    | some o => exact Ai.aft.ne q fun z => f2 (c1sub b z)
                  cases b with
                  | false =>
                    simp [compL, qa, qb] at hcl
                    refine iteF ⟨G3, wipeE ρb vs, acc, yd, rest, ⟨nextE A3.env, narrow (Ai.aft.trans up3)⟩, W.stb _ _ _ _ _ _ kpi up3 bsN, hD3, gD3, fun z => nD3 (nextC _ _ z), ra.mono up3.gg, hcl, hy⟩
                  | true =>
                    simp [compL, qa, qb] at hcl
                    cases qc : de ρb with
                    | none => simp [qc] at hcl
                    | some pc =>
                      obtain ⟨le, ρc⟩ := pc
                      cases qt : le.tree with
                      | none => simp [qc, qt] at hcl
                      | some y =>
                        cases qr : compL vs g dt de (xs.drop (i + 1)) (wipeE ρc vs) with
                        | none => simp [qc, qt, qr] at hcl
                        | some rr =>
                          simp [qc, qt, qr] at hcl
                          obtain ⟨rfl, rfl⟩ := hcl
                          refine iteT ⟨G3, ρb, le, ρc, A3.env, qc, fun v4 G4 H4 P4 => ?_⟩
                          obtain ⟨G5, E5, R5, A5, sm5, _⟩ := toTree P4.env P4.rep P4.new P4.aft qt
                          have up5 := up3.trans A5
                          have hD5 : H4 D = some (.lst acc) := up5.keep D _ hDi nDi
                          have gD5 : G5 D = none := up5.gn D _ hDi nDi gDi
                          have nD5 : ¬ Cl σ2 ρc D := up5.ne hDi nDi
                          have hlen : acc.length < sizeLine := by
                            rw [← line_eq]
                            have h1 := ra.length
                            rw [← hy] at hz
                            simp at hz
                            omega
                          have At5 : At X.K fa (Cl (wipe σ vs) (wipeE (hideO ho ρ1) vs)) G1 H1 G5 H4 (wipe σ vs) (wipeE ρc vs) := ⟨nextE E5, narrow (Ai.aft.trans up5)⟩
                          refine ⟨acc, hD5, hlen, G5, wipeE ρc vs, acc ++ [v4], yd ++ [y], rr.1, At5.mut hD5 gD5 (fun z => nD5 (nextC _ _ z)) hD, ?_, upd_same, gD5, fun z => nD5 (nextC _ _ z), (ra.mono up5.gg).append (.one R5), qr, by simpa using hy⟩
                          refine W.stb _ _ _ _ _ _ (W.stb _ _ _ _ _ _ kpi up5 bsN) (mut_aft hD5) fun b hbb z => ?_
                          exact (hb b hbb).1 (by rw [z]; exact hD)
            · have hi : i = xs.length := by omega
              subst hi
              simp [compL] at hcl
              obtain ⟨rfl, rfl⟩ := hcl
              rw [List.append_nil] at hy
              subst hy
              refine .inl ⟨W.stop _ Gi Hi kpi Ai.env.same (Nat.le_refl _), k _ Gi Hi ?_⟩
              -- back to all slots
              have lenE : ρ1.length = ρi.length := by rw [A1.env.len, Ai.env.len, wipe_length]
              have ownK : ∀ (j : Nat) (c : OC) (a : Addr), j ∈ ho.toList ++ vs → ρ1[j]? = some (.own c) → σ[j]? = some (some (.ref a)) → ¬ Cl (wipe σ vs) (wipeE (hideO ho ρ1) vs) a := fun j c a hj e1 e2 h => by
                obtain ⟨_, j', c', n', f1, f2⟩ := Cl.wipe h
                have f1' : ρ1[j']? = some (.own c') ∧ ho ≠ some j' := by
                  cases ho with
                  | none => exact ⟨f1, by simp⟩
                  | some t =>
                    have f1 : (ρ1.set t .un)[j']? = some (.own c') := f1
                    rcases set_get f1 with ⟨_, z⟩ | ⟨n, z⟩
                    · cases z
                    · exact ⟨z, fun e => n (by cases e; rfl)⟩
                have : j = j' := A1.env.inj j j' c c' a e1 f1'.1 e2 f2
                subst this
                rcases List.mem_append.mp hj with z | z
                · cases ho with
                  | none => simp at z
                  | some t => simp at z; subst z; exact f1'.2 rfl
                · exact n' z
              have someOf : ∀ (j : Nat) (c : OC) (a : Addr), ρ1[j]? = some (.own c) → σ[j]? = some (some (.ref a)) → ∃ o, H1 a = some o := fun j c a e1 e2 => by
                obtain ⟨p, o, f1, f2, f3, f4⟩ := A1.env.own j c e1
                rw [e2] at f1; cases f1
                exact ⟨o, f3⟩
              have csub : ∀ a, Cl σ (restE ρ1 ρi (ho.toList ++ vs)) a → Cl σ ρ1 a ∨ Cl (wipe σ vs) ρi a := fun a ⟨j, c, e1, e2⟩ => by
                rcases restE_get lenE e1 with ⟨h1, h2⟩ | ⟨h1, h2⟩
                · exact .inl ⟨j, c, h2, e2⟩
                · refine .inr ⟨j, c, h2, ?_⟩
                  rw [wipe_out fun z => h1 (List.mem_append_right _ z)]
                  exact e2
              have upA : Aft (Cl σ ρ1) (Cl σ (restE ρ1 ρi (ho.toList ++ vs))) G1 H1 Gi Hi :=
                ⟨Ai.aft.gg, fun a o e n => Ai.aft.keep a o e fun z => n (sub0 a (c1sub a z)), fun a o e n g => Ai.aft.gn a o e (fun z => n (sub0 a (c1sub a z))) g, Ai.aft.there, fun a h => by
                  rcases csub a h with z | z
                  · exact .inl z
                  · rcases Ai.aft.cs a z with y | y
                    · exact .inl (sub0 a (c1sub a y))
                    · exact .inr y⟩
              refine ⟨A1.aft.trans upA, ⟨Ai.env.same, by rw [restE_len, ← lenE]; exact A1.env.len, fun j x e => ?_, fun j c e => ?_, fun j j' c c' a e1 e2 e3 e4 => ?_⟩, ⟨D, .lst acc, rfl, gDi, fun z => ?_, hDi, ra⟩, fun a e => ?_⟩
              · rcases restE_get lenE e with ⟨h1, h2⟩ | ⟨h1, h2⟩
                · obtain ⟨v, f1, f2⟩ := A1.env.t j x h2
                  exact ⟨v, f1, f2.mono Ai.aft.gg⟩
                · obtain ⟨v, f1, f2⟩ := Ai.env.t j x h2
                  rw [wipe_out fun z => h1 (List.mem_append_right _ z)] at f1
                  exact ⟨v, f1, f2⟩
              · rcases restE_get lenE e with ⟨h1, h2⟩ | ⟨h1, h2⟩
                · obtain ⟨a, o, f1, f2, f3, f4⟩ := A1.env.own j c h2
                  have nc := ownK j c a h1 h2 f1
                  exact ⟨a, o, f1, Ai.aft.gn a o f3 nc f2, Ai.aft.keep a o f3 nc, f4.mono Ai.aft.gg⟩
                · obtain ⟨a, o, f1, f2⟩ := Ai.env.own j c h2
                  rw [wipe_out fun z => h1 (List.mem_append_right _ z)] at f1
                  exact ⟨a, o, f1, f2⟩
              · have cross : ∀ (j j' : Nat) (c c' : OC), j ∈ ho.toList ++ vs → ρ1[j]? = some (.own c) → σ[j]? = some (some (.ref a)) → j' ∉ ho.toList ++ vs → ρi[j']? = some (.own c') → σ[j']? = some (some (.ref a)) → False := fun j j' c c' h1 h2 h3 h4 h5 h6 => by
                  have cl : Cl (wipe σ vs) ρi a := ⟨j', c', h5, by rw [wipe_out fun z => h4 (List.mem_append_right _ z)]; exact h6⟩
                  rcases Ai.aft.cs a cl with z | z
                  · exact ownK j c a h1 h2 h3 z
                  · obtain ⟨o, f⟩ := someOf j c a h2 h3
                    rw [z] at f; cases f
                rcases restE_get lenE e1 with ⟨h1, h2⟩ | ⟨h1, h2⟩
                · rcases restE_get lenE e2 with ⟨h3, h4⟩ | ⟨h3, h4⟩
                  · exact A1.env.inj j j' c c' a h2 h4 e3 e4
                  · exact (cross j j' c c' h1 h2 e3 h3 h4 e4).elim
                · rcases restE_get lenE e2 with ⟨h3, h4⟩ | ⟨h3, h4⟩
                  · exact (cross j' j c' c h3 h4 e4 h1 h2 e3).elim
                  · refine Ai.env.inj j j' c c' a h2 h4 ?_ ?_
                    · rw [wipe_out fun z => h1 (List.mem_append_right _ z)]; exact e3
                    · rw [wipe_out fun z => h3 (List.mem_append_right _ z)]; exact e4
              · rcases csub D z with z | z
                · obtain ⟨j, c, f1, f2⟩ := z
                  obtain ⟨o, f⟩ := someOf j c D f1 f2
                  rw [hD] at f; cases f
                · exact nDi z
              · cases e
                exact A1.aft.there D hD
        · simp [compD, q0, q1, hz] at hd
  have pg : ∀ (s : Shared) (H : Hp) (C : Addr) (cl : List (Str × Addr)) (fp : List Addr), PG (X.blk s H scope (compEnvC scope cl C X.env) fp) tg (tDG X.K fa as g) := hg
  have pt : ∀ (s : Shared) (H : Hp) (C : Addr) (cl : List (Str × Addr)) (fp : List Addr), PTs (X.blk s H scope (compEnvC scope cl C X.env) fp) ifs (tDT X.K fa dt) := ht
  have pe : ∀ (s : Shared) (H : Hp) (C : Addr) (cl : List (Str × Addr)) (fp : List Addr), PE (X.blk s H scope (compEnvC scope cl C X.env) fp) elt (tD X.K fa de) := fun s H C cl fp => (he s H C cl fp).pe
  exact ⟨⟨fun pins s σ H Q I h => (pe_lc hc hN pi ok pg pt pe hs).run pins s σ H Q I (key σ H Q h)⟩, wi, pi, key⟩
theorem SE.of {e : Expr} {d : Den} (h : PE X e (tD X.K fa d)) : SE X fa e d := ⟨_, h, SE.rd _ rfl⟩
end
end LW
namespace LW
open PySem PySem.Spec PyProof.Rows L2

/-! ### defs: what they are worth -/
abbrev DenF := List L → Option (L × List L)
/-- the promise of a def of n parameters -/
def spM (K : PySem.W.Frag) (fa : Nat → Addr) (n : Nat) (m : DenF) : Sp := fun vs H Q _ => vs.length = n ∧ ∃ (G : Hp) (ls : List L) (r : L) (ls' : List L),
  EnvOk K fa G H (vs.map some) ls ∧ m ls = some (r, ls') ∧ ∀ v G' H', Post K fa G H (vs.map some) ls r ls' v G' H' → Q v H'
/-- trees in, a result out -/
def allT : List L → Option (List T)
  | [] => some []
  | .t x :: ls => (allT ls).map fun xs => x :: xs
  | _ :: _ => none
/-- what a def may hand back -/
def nor : L → Option L
  | .t x => some (.t x)
  | .own c => some (.own c)
  | _ => none
theorem nor_inv {l r : L} (h : nor l = some r) : r = l ∧ ∀ i, r ≠ .ref i := by
  cases l <;> cases h <;> exact ⟨rfl, fun i z => by cases z⟩
def pureF (f : List T → Option L) : DenF := fun ls => (allT ls).bind fun ts => (f ts).map fun r => (r, ls)
/-- a list that is changed, then trees -/
def feedF (g : List T → List T → Option (L × List T)) : DenF := fun ls => match ls with
  | .own (.lst xs) :: r => (allT r).bind fun ts => (g xs ts).map fun p => (p.1, .own (.lst p.2) :: r)
  | _ => none
theorem allT_map : ∀ ts : List T, allT (ts.map L.t) = some ts
  | [] => rfl
  | t :: ts => by simp [allT, allT_map ts]
theorem allT_inv : ∀ {ls : List L} {ts : List T}, allT ls = some ts → ls = ts.map L.t
  | [], ts, h => by cases h; rfl
  | l :: ls, ts, h => by
    cases l with
    | t x =>
      cases q : allT ls with
      | none => simp [allT, q] at h
      | some xs =>
        simp [allT, q] at h
        subst h
        rw [allT_inv q]
        rfl
    | _ => cases h
/-- a def that is there to be called: the facts that every context with the same module has -/
structure Fn (P : Program) (w : World) (K : PySem.W.Frag) (mg : Str → Option Value) (base : Heap) (fa : Nat → Addr) (k : Nat) (x : Str) (n : Nat) (m : DenF) : Prop where
  ex : ∃ (f : Addr) (fd : FuncData) (ps : List Str), FnOk P w K mg base CX0 k f fd ps (spM K fa n m) ∧ mg x = some (.ref f) ∧ PySem.W.keepIn K (.ref f) = true ∧ Binds K fd ps []
theorem Fn.mono {P : Program} {w : World} {K : PySem.W.Frag} {mg : Str → Option Value} {base : Heap} {fa : Nat → Addr} {j k : Nat} {x : Str} {n : Nat} {m : DenF} (F : Fn P w K mg base fa j x n m) (h : j ≤ k) : Fn P w K mg base fa k x n m := by
  obtain ⟨f, fd, ps, h1, h2, h3, h4⟩ := F.ex
  exact ⟨f, fd, ps, h1.mono h, h2, h3, h4⟩
section
variable {K : PySem.W.Frag} {fa : Nat → Addr} {G H G' H' : Hp} {σ : L2.St} {ρ : REnv}
theorem env_ts {vs : List V} {ts : List T} (s : Same G H) (r : RepAll K fa G vs ts) : EnvOk K fa G H (vs.map some) (ts.map L.t) := by
  refine ⟨s, by rw [List.length_map, List.length_map, r.length], fun i x e => ?_, fun i c e => ?_, fun i j c c' a e => ?_⟩
  · rw [List.getElem?_map] at e
    cases q : ts[i]? with
    | none => rw [q] at e; cases e
    | some y =>
      rw [q] at e
      cases e
      obtain ⟨v, h1, h2⟩ := r.get q
      exact ⟨v, by rw [List.getElem?_map, h1]; rfl, h2⟩
  · rw [List.getElem?_map] at e
    cases q : ts[i]? <;> rw [q] at e <;> cases e
  · rw [List.getElem?_map] at e
    cases q : ts[i]? <;> rw [q] at e <;> cases e
theorem cl_ts {σ : L2.St} {ts : List T} {a : Addr} (h : Cl σ (ts.map L.t) a) : False := by
  obtain ⟨i, c, e, _⟩ := h
  rw [List.getElem?_map] at e
  cases q : ts[i]? <;> rw [q] at e <;> cases e
/-- a list first, then trees -/
theorem env_feed {vs : List V} {ts xs : List T} {a : Addr} {ws : List V} (s : Same G H) (r : RepAll K fa G vs ts) (g : G a = none) (h : H a = some (.lst ws)) (rx : RepAll K fa G ws xs) :
    EnvOk K fa G H ((V.ref a :: vs).map some) (.own (.lst xs) :: ts.map L.t) := by
  have E := env_ts s r
  refine ⟨s, by simp [r.length], fun i x e => ?_, fun i c e => ?_, fun i j c c' b e1 e2 e3 e4 => ?_⟩
  · cases i with
    | zero => cases e
    | succ i => exact E.t i x e
  · cases i with
    | zero => cases e; exact ⟨a, .lst ws, rfl, g, h, rx⟩
    | succ i =>
      obtain ⟨p, o, h1, h2⟩ := E.own i c e
      exact ⟨p, o, h1, h2⟩
  · cases i with
    | zero =>
      cases j with
      | zero => rfl
      | succ j => exact (cl_ts (σ := vs.map some) ⟨j, c', e2, e4⟩).elim
    | succ i => exact (cl_ts (σ := vs.map some) ⟨i, c, e1, e3⟩).elim
end
section
variable {X : Cx} {fa : Nat → Addr} {e : Expr} {es : List Expr} {pos p : Pos} {x : Str} {n k : Nat}
def dCallP (n : Nat) (f : List T → Option L) (da : DenA) : Den := fun ρ => (da ρ).bind fun p => if p.1.length = n then (f p.1).bind fun r => (nor r).map fun r => (r, p.2) else none
theorem new_out {K : PySem.W.Frag} {G G1 H1 G' H' : Hp} {σ σ' : L2.St} {ρ ρ2 : REnv} {C : Addr → Prop} {v : V} {r : L} (E : EnvOk K fa G1 H1 σ ρ) (h : LRep K fa G' H' C σ' v r) (nr : ∀ i, r ≠ .ref i) (nw : NewL H1 v r) (sub : ∀ a, Cl σ ρ2 a → Cl σ ρ a) : LRep K fa G' H' (Cl σ ρ2) σ v r := by
  cases r with
  | un => exact h
  | t y => exact h
  | own c =>
    obtain ⟨pa, o, rfl, gp, nc, hh, ro⟩ := h
    refine ⟨pa, o, rfl, gp, fun hc => ?_, hh, ro⟩
    have hn : H1 pa = none := nw pa rfl
    obtain ⟨j, c', f1, f2⟩ := sub _ hc
    obtain ⟨a', o', u1, u2, u3, u4⟩ := E.own j c' f1
    rw [f2] at u1; cases u1
    rw [hn] at u3; cases u3
  | ref j => exact absurd rfl (nr j)
theorem SE.callP {f : List T → Option L} {da : DenA} (F : Fn X.prog X.w X.K X.mg X.base fa k x n (pureF f)) (hr : Room k X.A) (hg : Gl X x) (ha : SA X fa (e :: es) da)
    (hdb : (x == ("__debug__" : Str)) = false) (he : starEach (e :: es) X.env = (false, eval e X.env) :: starEach es X.env) (hpl : (backTo pos (starEach es X.env)).any (·.1) = false) :
    SE X fa (.Call (.Name x p) (e :: es) [] pos) (dCallP n f da) := by
  obtain ⟨fA, fd, ps, h1, h2, h3, h4⟩ := F.ex
  obtain ⟨t, pt, rt⟩ := ha
  refine ⟨_, pe_call h1 hr hg h2 h3 h4 .nil pass0 pt hdb he hpl, fun σ G H ρ l ρ' Q E hd kk => ?_⟩
  cases q : da ρ with
  | none => simp [dCallP, q] at hd
  | some z =>
    by_cases hz : z.1.length = n
    · cases q1 : f z.1 with
      | none => simp [dCallP, q, q1, hz] at hd
      | some r =>
        cases q2 : nor r with
        | none => simp [dCallP, q, q1, hz, q2] at hd
        | some r2 =>
          simp [dCallP, q, q1, hz, q2] at hd
          obtain ⟨rfl, rfl⟩ := hd
          obtain ⟨rfl, nr⟩ := nor_inv q2
          refine rt σ G H ρ z.1 z.2 _ E q fun vs G1 H1 A1 R1 => ?_
          show spM X.K fa n (pureF f) (vs ++ []) H1 Q E0
          rw [List.append_nil]
          refine ⟨by rw [R1.length]; exact hz, G1, z.1.map L.t, r2, z.1.map L.t, env_ts A1.env.same R1, by simp [pureF, allT_map, q1], fun v G' H' P => ?_⟩
          have a2 : Aft (Cl σ z.2) (Cl σ z.2) G1 H1 G' H' := P.aft.wide fun b hb => (cl_ts hb).elim
          have E2 : EnvOk X.K fa G' H' σ z.2 := A1.env.carry P.aft P.env.same fun b _ hb => cl_ts hb
          exact kk v G' H' ⟨A1.aft.trans a2, E2, new_out (G := G) A1.env P.rep nr P.new fun _ h => h, P.new.aft A1.aft⟩
    · simp [dCallP, q, hz] at hd
/-- .. with a list at a slot that is changed -/
def isOwnL (ρ : REnv) (i : Nat) : Bool := match ρ[i]? with
  | some (.own (.lst _)) => true
  | _ => false
theorem isOwnL_inv {ρ : REnv} {i : Nat} (h : isOwnL ρ i = true) : ∃ xs, ρ[i]? = some (.own (.lst xs)) := by
  unfold isOwnL at h
  split at h
  · rename_i xs e
    exact ⟨xs, e⟩
  · cases h
def dCallF (n i : Nat) (g : List T → List T → Option (L × List T)) (da : DenA) : Den := fun ρ => if isOwnL ρ i then (da ρ).bind fun p => if p.1.length + 1 = n then (match p.2[i]? with
  | some (.own (.lst xs)) => (g xs p.1).bind fun r => (nor r.1).map fun l => (l, p.2.set i (.own (.lst r.2)))
  | _ => none) else none else none
theorem SE.callF {g : List T → List T → Option (L × List T)} {da : DenA} {i : Nat} {y : Str} {py : Pos} (F : Fn X.prog X.w X.K X.mg X.base fa k x n (feedF g)) (hr : Room k X.A) (hg : Gl X x)
    (hN : X.N[i]? = some y) (hv : Vis X.env.scope y) (hd : (y == ("__debug__" : Str)) = false) (hcd : (y == ("__classdict__" : Str)) = false) (ha : SA X fa es da)
    (hdb : (x == ("__debug__" : Str)) = false) (he : starEach (.Name y py :: es) X.env = (false, eval (.Name y py) X.env) :: starEach es X.env) (hpl : (backTo pos (starEach es X.env)).any (·.1) = false) :
    SE X fa (.Call (.Name x p) (.Name y py :: es) [] pos) (dCallF n i g da) := by
  obtain ⟨fA, fd, ps, h1, h2, h3, h4⟩ := F.ex
  obtain ⟨t, pt, rt⟩ := ha
  refine ⟨_, pe_call h1 hr hg h2 h3 h4 .nil pass0 (pa_cons (pe_var hN hv hd hcd) pt he) hdb he hpl, fun σ G H ρ l ρ' Q E hdd kk => ?_⟩
  by_cases ho : isOwnL ρ i = true
  · cases q : da ρ with
    | none => simp [dCallF, q, ho] at hdd
    | some z =>
      by_cases hz : z.1.length + 1 = n
      · cases q2 : z.2[i]? with
        | none => simp [dCallF, q, q2, ho, hz] at hdd
        | some m =>
          cases m with
          | own c =>
            cases c with
            | lst xs =>
              cases q1 : g xs z.1 with
              | none => simp [dCallF, q, q2, q1, ho, hz] at hdd
              | some r =>
                obtain ⟨r, xs'⟩ := r
                cases q3 : nor r with
                | none => simp [dCallF, q, q2, q1, ho, hz, q3] at hdd
                | some r2 =>
                  simp [dCallF, q, q2, q1, ho, hz, q3] at hdd
                  obtain ⟨rfl, rfl⟩ := hdd
                  obtain ⟨rfl, nr⟩ := nor_inv q3
                  obtain ⟨c', hc'⟩ := isOwnL_inv ho
                  obtain ⟨a0, o0, e0, _⟩ := E.own i _ hc'
                  refine ⟨_, e0, ?_⟩
                  refine rt σ G H ρ z.1 z.2 _ E q fun vs G1 H1 A1 R1 => ?_
                  show spM X.K fa n (feedF g) ((V.ref a0 :: vs) ++ []) H1 Q E0
                  rw [List.append_nil]
                  obtain ⟨a1, o1, e1, g1, hh1, ro1⟩ := A1.env.own i _ q2
                  rw [e0] at e1
                  cases e1
                  cases o1 with
                  | lst ws =>
                    have EF := env_feed (xs := xs) A1.env.same R1 g1 hh1 ro1
                    refine ⟨by rw [List.length_cons, R1.length]; exact hz, G1, .own (.lst xs) :: z.1.map L.t, r2, .own (.lst xs') :: z.1.map L.t, EF, by simp [feedF, allT_map, q1], fun v G' H' P => ?_⟩
                    have cF : ∀ b, Cl ((V.ref a0 :: vs).map some) (.own (.lst xs) :: z.1.map L.t) b → b = a0 := fun b hb => by
                      obtain ⟨j, c, f1, f2⟩ := hb
                      cases j with
                      | zero => cases f2; rfl
                      | succ j => exact (cl_ts (σ := vs.map some) ⟨j, c, f1, f2⟩).elim
                    have hcl : Cl σ z.2 a0 := ⟨i, _, q2, e0⟩
                    have a2 : Aft (Cl σ z.2) (Cl σ z.2) G1 H1 G' H' := P.aft.wide fun b hb => by rw [cF b hb]; exact hcl
                    obtain ⟨a3, o3, e3, g3, hh3, ro3⟩ := P.env.own 0 (.lst xs') rfl
                    have e3' : some (some (V.ref a0)) = some (some (V.ref a3)) := e3
                    cases e3'
                    have hi : i < σ.length := (List.getElem?_eq_some_iff.mp e0).1
                    have hiρ : i < z.2.length := (List.getElem?_eq_some_iff.mp q2).1
                    -- the caller's slots behind the call
                    have clE : ∀ b, Cl σ (z.2.set i (.own (.lst xs'))) b → Cl σ z.2 b := fun b ⟨j, c, f1, f2⟩ => by
                      rcases set_get f1 with ⟨rfl, _⟩ | ⟨_, f⟩
                      · rw [e0] at f2; cases f2; exact hcl
                      · exact ⟨j, c, f, f2⟩
                    have E2 : EnvOk X.K fa G' H' σ (z.2.set i (.own (.lst xs'))) := by
                      refine ⟨P.env.same, by simp [A1.env.len], fun j y e => ?_, fun j c e => ?_, fun j j' c c' b f1 f2 f3 f4 => ?_⟩
                      · rcases set_get e with ⟨_, z⟩ | ⟨_, f⟩
                        · cases z
                        · obtain ⟨v, u1, u2⟩ := A1.env.t j y f
                          exact ⟨v, u1, u2.mono P.aft.gg⟩
                      · rcases set_get e with ⟨rfl, z⟩ | ⟨nj, f⟩
                        · cases z
                          exact ⟨a0, o3, e0, g3, hh3, ro3⟩
                        · obtain ⟨b, o, u1, u2, u3, u4⟩ := A1.env.own j c f
                          have nb : ¬ Cl ((V.ref a0 :: vs).map some) (.own (.lst xs) :: z.1.map L.t) b := fun hb => by
                            rw [cF b hb] at u1
                            exact nj (A1.env.inj j i _ _ a0 f q2 u1 e0)
                          exact ⟨b, o, u1, P.aft.gn b o u3 nb u2, P.aft.keep b o u3 nb, u4.mono P.aft.gg⟩
                      · have key : ∀ (j : Nat) (c : OC), (z.2.set i (L.own (.lst xs')))[j]? = some (.own c) → ∃ c', z.2[j]? = some (.own c') := fun j c f => by
                          rcases set_get f with ⟨rfl, _⟩ | ⟨_, f⟩
                          · exact ⟨_, q2⟩
                          · exact ⟨c, f⟩
                        obtain ⟨d1, k1⟩ := key j c f1
                        obtain ⟨d2, k2⟩ := key j' c' f2
                        exact A1.env.inj j j' d1 d2 b k1 k2 f3 f4
                    exact kk v G' H' ⟨(A1.aft.trans a2).trans ⟨Same.refl _, fun _ _ h _ => h, fun _ _ _ _ h => h, fun _ h => h, fun b hb => .inl (clE b hb)⟩, E2, new_out (G := G) A1.env P.rep nr P.new clE, P.new.aft A1.aft⟩
                  | _ => exact (show False from ro1).elim
            | _ => simp [dCallF, q, q2, ho, hz] at hdd
          | _ => simp [dCallF, q, q2, ho, hz] at hdd
      · simp [dCallF, q, ho, hz] at hdd
  · simp [dCallF, ho] at hdd
/-- an expression over the slots' own lists as they stand: nothing of them may be in what comes out -/
def frzL : L → L
  | .own (.lst xs) => .t (.lst xs)
  | .own _ => .un
  | l => l
def frzE (ρ : REnv) : REnv := ρ.map frzL
mutual
def T.noL : T → Bool
  | .lst _ => false
  | .lkl _ => false
  | .dic _ _ _ => false
  | .tup xs => T.noLs xs
  | _ => true
def T.noLs : List T → Bool
  | [] => true
  | x :: xs => T.noL x && T.noLs xs
end
def L.noL : L → Bool
  | .t x => x.noL
  | .own (.lst xs) => T.noLs xs
  | _ => false
def dBor (d : Den) : Den := fun ρ => (d (frzE ρ)).bind fun p => if p.1.noL then some (p.1, ρ) else none
mutual
theorem Rep.less {K : PySem.W.Frag} {G G' H : Hp} {C : Addr → Prop} (s : Same G' H) (hC : ∀ a, C a → ∃ vs, H a = some (.lst vs)) (hG : ∀ a o, G' a = some o → ¬ C a → G a = some o) : ∀ {x : T} {v : V}, x.noL = true → Rep K fa G' v x → Rep K fa G v x
  | .non, _, _, h => by cases h; exact .non
  | .bl b, _, _, h => by cases h; exact .bl b
  | .int i, _, _, h => by cases h; exact .int i
  | .str x, _, _, h => by cases h; exact .str x
  | .lst _, _, n, _ => by simp [T.noL] at n
  | .lkl _, _, n, _ => by simp [T.noL] at n
  | .dic _ _ _, _, n, _ => by simp [T.noL] at n
  | .fn k, _, _, h => by cases h; exact .fn k
  | .tup xs, _, n, h => by
    cases h with
    | tup e r =>
      refine .tup ?_ (RepAll.less s hC hG (by simpa only [T.noL] using n) r)
      have key : ∀ (a : Addr) (o : HO), G' a = some o → (∀ vs, o ≠ .lst vs) → G a = some o := fun a o e ne => hG a o e fun c => by
        obtain ⟨vs, hv⟩ := hC a c
        rw [s a o e] at hv
        cases hv
        exact ne vs rfl
      rcases e with (e | ⟨o, e⟩) | e
      · exact .inl (.inl (key _ _ e fun vs z => by cases z))
      · exact .inl (.inr ⟨o, key _ _ e fun vs z => by cases z⟩)
      · exact .inr e
theorem RepAll.less {K : PySem.W.Frag} {G G' H : Hp} {C : Addr → Prop} (s : Same G' H) (hC : ∀ a, C a → ∃ vs, H a = some (.lst vs)) (hG : ∀ a o, G' a = some o → ¬ C a → G a = some o) : ∀ {xs : List T} {vs : List V}, T.noLs xs = true → RepAll K fa G' vs xs → RepAll K fa G vs xs
  | [], _, _, h => by cases h; exact .nil
  | x :: xs, _, n, h => by
    simp only [T.noLs, Bool.and_eq_true] at n
    cases h with
    | cons a b => exact .cons (Rep.less s hC hG n.1 a) (RepAll.less s hC hG n.2 b)
end
open Classical in
theorem bor_read {d : Den} {t : TE} (rt : Rd1 X fa t d) : Rd1 X fa t (dBor d) := by
  intro σ G H ρ l ρ' Q E hd kk
  cases q : d (frzE ρ) with
  | none => simp [dBor, q] at hd
  | some z =>
    by_cases hn : z.1.noL = true
    · simp [dBor, q, hn] at hd
      obtain ⟨rfl, rfl⟩ := hd
      -- the frozen part with the slots' own lists
      let C : Addr → Prop := fun a => ∃ (i : Nat) (xs : List T), ρ[i]? = some (.own (.lst xs)) ∧ σ[i]? = some (some (.ref a))
      have hCl : ∀ a, C a → Cl σ ρ a := fun a ⟨i, xs, e1, e2⟩ => ⟨i, _, e1, e2⟩
      let G1 : Hp := fun a => if C a then H a else G a
      have gC : ∀ a, C a → G1 a = H a := fun a h => if_pos h
      have gN : ∀ a, ¬ C a → G1 a = G a := fun a h => if_neg h
      have cG : ∀ a, Cl σ ρ a → G a = none ∧ ∃ o, H a = some o := fun a ⟨i, c, e1, e2⟩ => by
        obtain ⟨p, o, f1, f2, f3, f4⟩ := E.own i c e1
        rw [e2] at f1; cases f1
        exact ⟨f2, o, f3⟩
      have sm : Same G G1 := fun a o e => by
        by_cases hc : C a
        · rw [(cG a (hCl a hc)).1] at e; cases e
        · rw [gN a hc]; exact e
      have fz : ∀ (i : Nat) (l : L), (frzE ρ)[i]? = some l → ∃ l0, ρ[i]? = some l0 ∧ l = frzL l0 := fun i l e => by
        unfold frzE at e
        rw [List.getElem?_map] at e
        cases q : ρ[i]? with
        | none => rw [q] at e; cases e
        | some l0 => rw [q] at e; cases e; exact ⟨l0, rfl, rfl⟩
      have noOwn : ∀ (i : Nat) (c : OC), (frzE ρ)[i]? = some (.own c) → False := fun i c e => by
        obtain ⟨l0, h1, h2⟩ := fz i _ e
        cases l0 with
        | own c0 => cases c0 <;> cases h2
        | _ => cases h2
      have E1 : EnvOk X.K fa G1 H σ (frzE ρ) := by
        refine ⟨fun a o e => ?_, by simp [frzE, E.len], fun i x e => ?_, fun i c e => ?_, fun i j c c' a e1 e2 e3 e4 => ?_⟩
        · by_cases hc : C a
          · rw [gC a hc] at e; exact e
          · rw [gN a hc] at e; exact E.same a o e
        · obtain ⟨l0, h1, h2⟩ := fz i _ e
          cases l0 with
          | t y =>
            cases h2
            obtain ⟨v, f1, f2⟩ := E.t i _ h1
            exact ⟨v, f1, f2.mono sm⟩
          | own c =>
            cases c with
            | lst xs =>
              cases h2
              obtain ⟨p, o, f1, f2, f3, f4⟩ := E.own i _ h1
              cases o with
              | lst vs =>
                exact ⟨_, f1, .lst (by rw [gC p ⟨i, xs, h1, f1⟩]; exact f3) (RepAll.mono sm f4)⟩
              | _ => exact (show False from f4).elim
            | dK _ => cases h2
            | dT _ => cases h2
          | _ => cases h2
        · exact (noOwn i c e).elim
        · exact (noOwn i c e1).elim
      have cl0 : ∀ a, ¬ Cl σ (frzE ρ) a := fun a ⟨i, c, e, _⟩ => noOwn i c e
      refine rt σ G1 H (frzE ρ) z.1 z.2 Q E1 q fun v G2 H2 P => ?_
      have hC2 : ∀ a, Cl σ ρ a → ∃ o, H a = some o ∧ H2 a = some o := fun a h => by
        obtain ⟨_, o, e⟩ := cG a h
        exact ⟨o, e, P.aft.keep a o e (cl0 a)⟩
      let G3 : Hp := fun a => if C a then none else G2 a
      have g3C : ∀ a, C a → G3 a = none := fun a h => if_pos h
      have g3N : ∀ a, ¬ C a → G3 a = G2 a := fun a h => if_neg h
      have s13 : Same G G3 := fun a o e => by
        by_cases hc : C a
        · rw [(cG a (hCl a hc)).1] at e; cases e
        · rw [g3N a hc]; exact P.aft.gg a o (sm a o e)
      have g3none : ∀ a o, H a = some o → G a = none → G3 a = none := fun a o e g => by
        by_cases hc : C a
        · exact g3C a hc
        · rw [g3N a hc]
          exact P.aft.gn a o e (cl0 a) (by rw [gN a hc]; exact g)
      have E3 : EnvOk X.K fa G3 H2 σ ρ := by
        refine ⟨fun a o e => ?_, E.len, fun i x e => ?_, fun i c e => ?_, E.inj⟩
        · by_cases hc : C a
          · rw [g3C a hc] at e; cases e
          · rw [g3N a hc] at e; exact P.env.same a o e
        · obtain ⟨w, f1, f2⟩ := E.t i x e
          exact ⟨w, f1, f2.mono s13⟩
        · obtain ⟨p, o, f1, f2, f3, f4⟩ := E.own i c e
          exact ⟨p, o, f1, g3none p o f3 f2, P.aft.keep p o f3 (cl0 p), f4.mono s13⟩
      have hCl2 : ∀ a, C a → ∃ vs, H2 a = some (.lst vs) := fun a ⟨i, xs, e1, e2⟩ => by
        obtain ⟨p, o, f1, f2, f3, f4⟩ := E.own i _ e1
        rw [e2] at f1; cases f1
        cases o with
        | lst vs => exact ⟨vs, P.aft.keep _ _ f3 (cl0 _)⟩
        | _ => exact (show False from f4).elim
      have hG3 : ∀ a o, G2 a = some o → ¬ C a → G3 a = some o := fun a o e hc => by rw [g3N a hc]; exact e
      refine kk v G3 H2 ⟨⟨s13, fun a o e nc => P.aft.keep a o e (cl0 a), fun a o e nc g => g3none a o e g, P.aft.there, fun a h => .inl h⟩, E3, ?_, P.new⟩
      have rp := P.rep
      have nw := P.new
      cases hl : z.1 with
      | un => rw [hl] at rp; exact rp
      | t y =>
        rw [hl] at rp hn
        exact Rep.less P.env.same hCl2 hG3 hn rp
      | own c =>
        rw [hl] at rp hn nw
        cases c with
        | lst xs =>
          obtain ⟨p, o, rfl, gp, nc, hh, ro⟩ := rp
          cases o with
          | lst vs =>
            refine ⟨p, .lst vs, rfl, ?_, fun hc => ?_, hh, RepAll.less P.env.same hCl2 hG3 hn ro⟩
            · by_cases hc : C p
              · exact g3C p hc
              · rw [g3N p hc]; exact gp
            · obtain ⟨o, f1, _⟩ := hC2 p hc
              rw [nw p rfl] at f1; cases f1
          | _ => exact (show False from ro).elim
        | _ => simp [L.noL] at hn
      | ref i => rw [hl] at hn; simp [L.noL] at hn
    · simp [dBor, q, hn] at hd
theorem SE.bor {d : Den} (h : SE X fa e d) : SE X fa e (dBor d) := by
  obtain ⟨t, pt, rt⟩ := h
  exact ⟨t, pt, bor_read rt⟩
end
end LW
namespace LW
open PySem PySem.Spec PyProof.Rows L2

/-! ### statements -/
inductive Fl where
  | nx | brk | cont | ret (l : L)
abbrev DenS := REnv → Option (Fl × REnv)
/-- from a start: the slots, too -/
structure AtS (K : PySem.W.Frag) (fa : Nat → Addr) (C0 : Addr → Prop) (G0 H0 : Hp) (σ0 : L2.St) (as : List Nat) (G H : Hp) (σ : L2.St) (ρ : REnv) : Prop extends At K fa C0 G0 H0 G H σ ρ where
  slots : Slots as σ0 σ
/-- what follows is reached -/
def Cont (K : PySem.W.Frag) (fa : Nat → Addr) (C0 : Addr → Prop) (G0 H0 : Hp) (σ0 : L2.St) (as : List Nat) (D : Ends) (fl : Fl) (ρ' : REnv) : Prop :=
  match fl with
  | .nx => ∀ σ' G' H', AtS K fa C0 G0 H0 σ0 as G' H' σ' ρ' → D.nx σ' H'
  | .brk => ∀ σ' G' H', AtS K fa C0 G0 H0 σ0 as G' H' σ' ρ' → D.bk σ' H'
  | .cont => ∀ σ' G' H', AtS K fa C0 G0 H0 σ0 as G' H' σ' ρ' → D.ct σ' H'
  | .ret l => ∀ v σ' G' H', AtS K fa C0 G0 H0 σ0 as G' H' σ' ρ' → LRep K fa G' H' (Cl σ' ρ') σ' v l → NewL H0 v l → D.rt v H'
def RdS (K : PySem.W.Frag) (fa : Nat → Addr) (as : List Nat) (t : TS) (d : DenS) : Prop := ∀ (σ : L2.St) (G H : Hp) (ρ : REnv) (fl : Fl) (ρ' : REnv) (D : Ends), EnvOk K fa G H σ ρ → d ρ = some (fl, ρ') →
  Cont K fa (Cl σ ρ) G H σ as D fl ρ' → t D σ H
def SS (X : Cx) (fa : Nat → Addr) (st : Stmt) (as : List Nat) (d : DenS) : Prop := ∃ t : TS, PS X st t ∧ RdS X.K fa as t d
def SSs (X : Cx) (fa : Nat → Addr) (sts : List Stmt) (as : List Nat) (d : DenS) : Prop := ∃ t : TS, PSs X sts t ∧ RdS X.K fa as t d
section
variable {K : PySem.W.Frag} {fa : Nat → Addr} {C0 : Addr → Prop} {G0 H0 G1 H1 : Hp} {σ0 σ1 : L2.St} {ρ1 ρ' : REnv} {as bs : List Nat} {D : Ends} {fl : Fl}
theorem AtS.then {G2 H2 : Hp} {σ2 : L2.St} {ρ2 : REnv} (a : AtS K fa C0 G0 H0 σ0 as G1 H1 σ1 ρ1) (b : AtS K fa (Cl σ1 ρ1) G1 H1 σ1 bs G2 H2 σ2 ρ2) : AtS K fa C0 G0 H0 σ0 (as ++ bs) G2 H2 σ2 ρ2 :=
  ⟨⟨b.env, a.aft.trans b.aft⟩, a.slots.trans b.slots⟩
/-- the same end, seen from further on -/
theorem Cont.step (a : AtS K fa C0 G0 H0 σ0 as G1 H1 σ1 ρ1) (c : Cont K fa C0 G0 H0 σ0 (as ++ bs) D fl ρ') : Cont K fa (Cl σ1 ρ1) G1 H1 σ1 bs D fl ρ' := by
  cases fl with
  | nx => exact fun σ' G' H' b => c σ' G' H' (a.then b)
  | brk => exact fun σ' G' H' b => c σ' G' H' (a.then b)
  | cont => exact fun σ' G' H' b => c σ' G' H' (a.then b)
  | ret l => exact fun v σ' G' H' b r n => c v σ' G' H' (a.then b) r (n.aft a.aft)
theorem Cont.mono (h : ∀ i ∈ as, i ∈ bs) (c : Cont K fa C0 G0 H0 σ0 bs D fl ρ') : Cont K fa C0 G0 H0 σ0 as D fl ρ' := by
  cases fl with
  | nx => exact fun σ' G' H' b => c σ' G' H' ⟨b.toAt, b.slots.mono h⟩
  | brk => exact fun σ' G' H' b => c σ' G' H' ⟨b.toAt, b.slots.mono h⟩
  | cont => exact fun σ' G' H' b => c σ' G' H' ⟨b.toAt, b.slots.mono h⟩
  | ret l => exact fun v σ' G' H' b r n => c v σ' G' H' ⟨b.toAt, b.slots.mono h⟩ r n
end
def dSeq (d d' : DenS) : DenS := fun ρ => (d ρ).bind fun p => match p.1 with
  | .nx => d' p.2
  | _ => some p
def dNx : DenS := fun ρ => some (.nx, ρ)
section
variable {X : Cx} {fa : Nat → Addr} {st : Stmt} {sts : List Stmt} {as bs : List Nat} {d d' : DenS} {e : Expr} {de : Den} {pos : Pos}
theorem SSs.nil : SSs X fa [] [] dNx := ⟨_, pss_nil, fun σ G H ρ fl ρ' D E hd k => by cases hd; exact k σ G H ⟨At.start E, Slots.refl⟩⟩
theorem SSs.cons (h : SS X fa st as d) (h' : SSs X fa sts bs d') : SSs X fa (st :: sts) (as ++ bs) (dSeq d d') := by
  obtain ⟨t, p, r⟩ := h
  obtain ⟨t', p', r'⟩ := h'
  refine ⟨_, pss_cons p p', fun σ G H ρ fl ρ' D E hd k => ?_⟩
  cases q : d ρ with
  | none => simp [dSeq, q] at hd
  | some z =>
    obtain ⟨f1, ρ1⟩ := z
    refine r σ G H ρ f1 ρ1 _ E q ?_
    cases f1 with
    | nx =>
      simp [dSeq, q] at hd
      exact fun σ1 G1 H1 A => r' σ1 G1 H1 ρ1 fl ρ' D A.env hd (k.step A)
    | brk =>
      simp [dSeq, q] at hd
      obtain ⟨rfl, rfl⟩ := hd
      exact (Cont.mono (fun i h => List.mem_append_left _ h) k : Cont X.K fa (Cl σ ρ) G H σ as D .brk _)
    | cont =>
      simp [dSeq, q] at hd
      obtain ⟨rfl, rfl⟩ := hd
      exact (Cont.mono (fun i h => List.mem_append_left _ h) k : Cont X.K fa (Cl σ ρ) G H σ as D .cont _)
    | ret l =>
      simp [dSeq, q] at hd
      obtain ⟨rfl, rfl⟩ := hd
      exact (Cont.mono (fun i h => List.mem_append_left _ h) k : Cont X.K fa (Cl σ ρ) G H σ as D (.ret l) _)
theorem SSs.one (h : SS X fa st as d) : SSs X fa [st] as d := by
  obtain ⟨t, p, r⟩ := h
  exact ⟨t, pss_one p, r⟩
theorem SS.pass : SS X fa (.Pass pos) [] dNx := ⟨_, ps_pass, fun σ G H ρ fl ρ' D E hd k => by cases hd; exact k σ G H ⟨At.start E, Slots.refl⟩⟩
def dBrk : DenS := fun ρ => some (.brk, ρ)
def dCnt : DenS := fun ρ => some (.cont, ρ)
theorem SS.brk : SS X fa (.Break pos) [] dBrk := ⟨_, ps_break, fun σ G H ρ fl ρ' D E hd k => by cases hd; exact k σ G H ⟨At.start E, Slots.refl⟩⟩
theorem SS.cnt : SS X fa (.Continue pos) [] dCnt := ⟨_, ps_continue, fun σ G H ρ fl ρ' D E hd k => by cases hd; exact k σ G H ⟨At.start E, Slots.refl⟩⟩
def dRet (d : Den) : DenS := fun ρ => (d ρ).map fun p => (.ret p.1, p.2)
theorem SS.ret (h : SE X fa e de) : SS X fa (.Return (some e) pos) [] (dRet de) := by
  obtain ⟨t, p, r⟩ := h
  refine ⟨_, ps_ret p, fun σ G H ρ fl ρ' D E hd k => ?_⟩
  cases q : de ρ with
  | none => simp [dRet, q] at hd
  | some z =>
    simp [dRet, q] at hd
    obtain ⟨rfl, rfl⟩ := hd
    exact r σ G H ρ z.1 z.2 _ E q fun v G' H' P => k v σ G' H' ⟨⟨P.env, P.aft⟩, Slots.refl⟩ P.rep P.new
def dRetN : DenS := fun ρ => some (.ret (.t .non), ρ)
theorem SS.retN : SS X fa (.Return none pos) [] dRetN := ⟨_, ps_retN, fun σ G H ρ fl ρ' D E hd k => by cases hd; exact k .non σ G H ⟨At.start E, Slots.refl⟩ Rep.non trivial⟩
/-- an expression whose value is dropped -/
def dDrop (d : Den) : DenS := fun ρ => (d ρ).map fun p => (.nx, p.2)
theorem SS.expr (h : SE X fa e de) (hs : swapsWith e none pos.line X.env = pure false) : SS X fa (.Expr e pos) [] (dDrop de) := by
  obtain ⟨t, p, r⟩ := h
  refine ⟨_, ps_expr p hs, fun σ G H ρ fl ρ' D E hd k => ?_⟩
  cases q : de ρ with
  | none => simp [dDrop, q] at hd
  | some z =>
    simp [dDrop, q] at hd
    obtain ⟨rfl, rfl⟩ := hd
    exact r σ G H ρ z.1 z.2 _ E q fun v G' H' P => k σ G' H' ⟨⟨P.env, P.aft⟩, Slots.refl⟩
theorem SS.doc {x : Str} {j : Nat} {pos' : Pos} : SS X fa (.Expr (.Constant (.str x) j pos) pos') [] dNx := ⟨_, ps_doc, fun σ G H ρ fl ρ' D E hd k => by cases hd; exact k σ G H ⟨At.start E, Slots.refl⟩⟩
/-- name = value -/
def stoE (i : Nat) (l : L) (ρ : REnv) : Option REnv := if i < ρ.length then (match l with
  | .t x => some (ρ.set i (.t x))
  | .own c => some (ρ.set i (.own c))
  | _ => none) else none
def dSet (i : Nat) (d : Den) : DenS := fun ρ => (d ρ).bind fun p => (stoE i p.1 p.2).map fun r => (.nx, r)
theorem sto_ok {K : PySem.W.Frag} {G H G' H' : Hp} {σ : L2.St} {ρ ρ1 ρ2 : REnv} {l : L} {v : V} {i : Nat} (P : Post K fa G H σ ρ l ρ1 v G' H') (h : stoE i l ρ1 = some ρ2) : AtS K fa (Cl σ ρ) G H σ [i] G' H' (σ.set i (some v)) ρ2 := by
  unfold stoE at h
  split at h
  · rename_i hi
    split at h
    · rename_i x
      cases h
      exact ⟨⟨P.env.set_t hi P.rep, P.aft.gg, P.aft.keep, P.aft.gn, P.aft.there, fun a z => P.aft.cs a (Cl.set_t (fun c z => by cases z) z)⟩, Slots.set⟩
    · rename_i c
      cases h
      have rp := P.rep
      obtain ⟨p, o, rfl, g, nc, hh, ro⟩ := id rp
      refine ⟨⟨P.env.set_own hi rp, P.aft.gg, P.aft.keep, P.aft.gn, P.aft.there, fun a z => ?_⟩, Slots.set⟩
      rcases Cl.set_own z with z | z
      · rw [z]; exact .inr (P.new p rfl)
      · exact P.aft.cs a z
    · cases h
  · cases h
theorem set_read {K : PySem.W.Frag} {t : TE} {i : Nat} (r : ∀ (σ : L2.St) (G H : Hp) (ρ : REnv) (l : L) (ρ' : REnv) (Q : VK), EnvOk K fa G H σ ρ → de ρ = some (l, ρ') → (∀ v G' H', Post K fa G H σ ρ l ρ' v G' H' → Q v H') → t σ H Q) : RdS K fa [i] (tAsg t (gName i)) (dSet i de) := by
  intro σ G H ρ fl ρ' D E hd k
  cases q : de ρ with
  | none => simp [dSet, q] at hd
  | some z =>
    cases q1 : stoE i z.1 z.2 with
    | none => simp [dSet, q, q1] at hd
    | some ρ2 =>
      simp [dSet, q, q1] at hd
      obtain ⟨rfl, rfl⟩ := hd
      exact r σ G H ρ z.1 z.2 _ E q fun v G' H' P => k _ G' H' (sto_ok P q1)
theorem SS.set {i : Nat} {x : Str} {pos' : Pos} (hN : X.N.Nodup) (hi : X.N[i]? = some x) (hx : Loc X.env.scope x) (h : SE X fa e de) (hs : swapsWith e (some (.Name x pos')) pos.line X.env = pure false) (hf : X.fn x = true ∨ X.env.scope.names.lookup x = some .local) :
    SS X fa (.Assign [.Name x pos'] e pos) [i] (dSet i de) := by
  obtain ⟨t, p, r⟩ := h
  exact ⟨_, ps_set hN hi hx p hs hf, set_read r⟩
theorem SS.setC {i : Nat} {y : Str} {py : Pos} {elt tg iter : Expr} {ifs : List Expr} {scope : Scope} {own : List (Str × Nat)} {pos spos : Pos} {src : DenI} {cs : List Nat} {g : DenG} {dt : DenT} {dd : Den} (hc : X.calm = true) (hN : X.N.Nodup) (hy : X.N[i]? = some y) (hyl : X.env.scope.names.lookup y = some .local)
    (hsw : swapsWith (.ListComp elt [⟨tg, iter, ifs, 0⟩] scope pos) (some (.Name y py)) spos.line X.env = pure true) (hi : SI X fa tg iter src)
    (ok : BlkOk X.N X.env.scope scope own) (has : ∀ i ∈ cs, i ∈ own.map (·.2))
    (hg : ∀ (s : Shared) (H : Hp) (C : Addr) (cl : List (Str × Addr)) (fp : List Addr), SG (X.blk s H scope (compEnvC scope cl C X.env) fp) fa tg cs g)
    (ht : ∀ (s : Shared) (H : Hp) (C : Addr) (cl : List (Str × Addr)) (fp : List Addr), STs (X.blk s H scope (compEnvC scope cl C X.env) fp) fa ifs dt)
    (he : ∀ (s : Shared) (H : Hp) (C : Addr) (cl : List (Str × Addr)) (fp : List Addr), SE (X.blk s H scope (compEnvC scope cl C X.env) fp) fa elt dd) (hs : ∀ x, foldedSetIterable iter X.env x = pure x) :
    SS X fa (.Assign [.Name y py] (.ListComp elt [⟨tg, iter, ifs, 0⟩] scope pos) spos) [i] (dSet i (compD src (own.map (·.2)) g dt dd)) := by
  obtain ⟨_, wi, pi, key⟩ := SE.comp (pos := pos) hc hN hi ok has hg ht he hs
  have pg : ∀ (s : Shared) (H : Hp) (C : Addr) (cl : List (Str × Addr)) (fp : List Addr), PG (X.blk s H scope (compEnvC scope cl C X.env) fp) tg (tDG X.K fa cs g) := hg
  have pt : ∀ (s : Shared) (H : Hp) (C : Addr) (cl : List (Str × Addr)) (fp : List Addr), PTs (X.blk s H scope (compEnvC scope cl C X.env) fp) ifs (tDT X.K fa dt) := ht
  have pe : ∀ (s : Shared) (H : Hp) (C : Addr) (cl : List (Str × Addr)) (fp : List Addr), PE (X.blk s H scope (compEnvC scope cl C X.env) fp) elt (tD X.K fa dd) := fun s H C cl fp => (he s H C cl fp).pe
  exact ⟨_, ps_setLc hc hN hy hyl hsw pi ok pg pt pe hs, set_read fun σ G H ρ l ρ' Q E hd k => key σ H Q ⟨G, ρ, l, ρ', E, hd, k⟩⟩
/-- targets of other forms -/
def dAsg (d : Den) (g : DenG) : DenS := fun ρ => (d ρ).bind fun p => p.1.tree.bind fun x => (g x p.2).map fun r => (.nx, r)
theorem SS.asg {tg : Expr} {g : DenG} (h : SE X fa e de) (hg : SG X fa tg as g) (hs : swapsWithSole [tg] e pos.line X.env = pure false) (hw : swappedStores [tg] e X.env = pure none) (h1 : (assignEach [tg] X.env).map (·.2) = [assign tg X.env]) :
    SS X fa (.Assign [tg] e pos) as (dAsg de g) := by
  obtain ⟨t, p, r⟩ := h
  refine ⟨_, ps_asg p hg hs hw h1, fun σ G H ρ fl ρ' D E hd k => ?_⟩
  cases q : de ρ with
  | none => simp [dAsg, q] at hd
  | some z =>
    cases q1 : z.1.tree with
    | none => simp [dAsg, q, q1] at hd
    | some x =>
      cases q2 : g x z.2 with
      | none => simp [dAsg, q, q1, q2] at hd
      | some ρ2 =>
        simp [dAsg, q, q1, q2] at hd
        obtain ⟨rfl, rfl⟩ := hd
        refine r σ G H ρ z.1 z.2 _ E q fun v G1 H1 P => ?_
        obtain ⟨G2, E2, R2, A2, sm, _⟩ := toTree P.env P.rep P.new P.aft q1
        exact ⟨G2, z.2, x, ρ2, E2, R2, q2, fun σ' E' c' s' => k σ' G2 H1 ⟨⟨E', A2.gg, A2.keep, A2.gn, A2.there, fun a z => A2.cs a (c' a z)⟩, s'⟩⟩
/-- a, b = x, y: plain local names -/
def dPar (i j : Nat) (da : DenA) : DenS := fun ρ => (da ρ).bind fun p => match p.1 with
  | [x, y] => if i < p.2.length && decide (j < p.2.length) then some (.nx, (p.2.set i (.t x)).set j (.t y)) else none
  | _ => none
theorem SS.par {i j : Nat} {x y : Str} {a b : Expr} {da : DenA} {px py pt : Pos} {kt k2 : Nat} {pt2 : Pos} (hc : X.calm = true) (hN : X.N.Nodup) (hi : X.N[i]? = some x) (hj : X.N[j]? = some y) (hij : i ≠ j)
    (hx : X.env.scope.names.lookup x = some .local) (hy : X.env.scope.names.lookup y = some .local) (ha : SA X fa [a, b] da)
    (hw : swappedStores [.Tuple [.Name x px, .Name y py] kt pt] (.Tuple [a, b] k2 pt2) X.env = pure (some [x, y])) (hs : swapsWithSole [.Tuple [.Name x px, .Name y py] kt pt] (.Tuple [a, b] k2 pt2) pos.line X.env = pure false) :
    SS X fa (.Assign [.Tuple [.Name x px, .Name y py] kt pt] (.Tuple [a, b] k2 pt2) pos) [i, j] (dPar i j da) := by
  obtain ⟨t, p, r⟩ := ha
  refine ⟨_, ps_par hc hN hi hj hij hx hy p hw hs, fun σ G H ρ fl ρ' D E hd k => ?_⟩
  cases q : da ρ with
  | none => simp [dPar, q] at hd
  | some z =>
    obtain ⟨ts, ρ1⟩ := z
    simp only [dPar, q, Option.bind_some] at hd
    split at hd
    · rename_i u w
      split at hd
      · rename_i hl
        cases hd
        simp only [Bool.and_eq_true, decide_eq_true_eq] at hl
        refine r σ G H ρ [u, w] ρ1 _ E q fun vs G1 H1 A R => ?_
        cases R with
        | cons r1 R =>
          cases R with
          | cons r2 R =>
            cases R
            rename_i v1 v2
            have E1 := A.env.set_t hl.1 r1
            have E2 := E1.set_t (i := j) (by simpa using hl.2) r2
            exact ⟨_, _, rfl, k _ G1 H1 ⟨⟨E2, A.aft.gg, A.aft.keep, A.aft.gn, A.aft.there, fun a z => A.aft.cs a (Cl.set_t (fun c z => by cases z) (Cl.set_t (fun c z => by cases z) z))⟩, (Slots.set (i := i)).trans (Slots.set (i := j))⟩⟩
      · cases hd
    · cases hd
/-- if -/
def dIfS (c : DenT) (d d' : DenS) : DenS := fun ρ => (c ρ).bind fun p => if p.1 then d p.2 else d' p.2
theorem SS.ite {c : Expr} {a b : List Stmt} {dc : DenT} (hc : ST X fa c dc) (ha : SSs X fa a as d) (hb : SSs X fa b bs d') : SS X fa (.If c a b pos) (as ++ bs) (dIfS dc d d') := by
  obtain ⟨tc, pc, rc⟩ := hc
  obtain ⟨t, p, r⟩ := ha
  obtain ⟨t', p', r'⟩ := hb
  refine ⟨_, ps_if pc p p', fun σ G H ρ fl ρ' D E hd k => ?_⟩
  cases q : dc ρ with
  | none => simp [dIfS, q] at hd
  | some z =>
    refine rc σ G H ρ z.1 z.2 _ E q fun G1 H1 A1 => ?_
    have B1 : AtS X.K fa (Cl σ ρ) G H σ [] G1 H1 σ z.2 := ⟨A1, Slots.refl⟩
    cases q1 : z.1 with
    | true =>
      simp [dIfS, q, q1] at hd
      exact iteT (r σ G1 H1 z.2 fl ρ' D A1.env hd (Cont.step (as := []) B1 (Cont.mono (fun i h => List.mem_append_left _ (by simpa using h)) k)))
    | false =>
      simp [dIfS, q, q1] at hd
      exact iteF (r' σ G1 H1 z.2 fl ρ' D A1.env hd (Cont.step (as := []) B1 (Cont.mono (fun i h => List.mem_append_right _ (by simpa using h)) k)))
/-- while -/
def whileL (c : DenT) (db : DenS) : Nat → REnv → Option (Fl × REnv)
  | 0, _ => none
  | n + 1, ρ => (c ρ).bind fun p => if p.1 then (db p.2).bind fun q => (match q.1 with
    | .nx => whileL c db n q.2
    | .cont => whileL c db n q.2
    | .brk => some (.nx, q.2)
    | .ret l => some (.ret l, q.2)) else some (.nx, p.2)
theorem SS.while {c : Expr} {body : List Stmt} {dc : DenT} {n : Nat} (hp : PassesOwn (model X.prog X.w) X.A X.env X.xe) (hc : ST X fa c dc) (hb : SSs X fa body as d) : SS X fa (.While c body [] pos) as (whileL dc d n) := by
  obtain ⟨tc, pc, rc⟩ := hc
  obtain ⟨t, p, r⟩ := hb
  refine ⟨_, ps_while hp pc p, fun σ G H ρ fl ρ' D E hd k => ?_⟩
  refine ⟨fun m σ1 H1 => ∃ (G1 : Hp) (ρ1 : REnv), AtS X.K fa (Cl σ ρ) G H σ as G1 H1 σ1 ρ1 ∧ whileL dc d m ρ1 = some (fl, ρ'), ⟨n, G, ρ, ⟨At.start E, Slots.refl⟩, hd⟩, ?_⟩
  rintro m σ1 H1 ⟨G1, ρ1, A1, hw⟩
  cases m with
  | zero => cases hw
  | succ m =>
    cases q : dc ρ1 with
    | none => simp [whileL, q] at hw
    | some z =>
      refine rc σ1 G1 H1 ρ1 z.1 z.2 _ A1.env q fun G2 H2 A2 => ?_
      have B2 : AtS X.K fa (Cl σ ρ) G H σ as G2 H2 σ1 z.2 := ⟨⟨A2.env, A1.aft.trans A2.aft⟩, A1.slots⟩
      cases q1 : z.1 with
      | false =>
        simp [whileL, q, q1] at hw
        obtain ⟨rfl, rfl⟩ := hw
        exact iteF (k σ1 G2 H2 B2)
      | true =>
        cases q2 : d z.2 with
        | none => simp [whileL, q, q1, q2] at hw
        | some y =>
          obtain ⟨f2, ρ2⟩ := y
          refine iteT ⟨fun σ3 H3 => ∃ (G3 : Hp), AtS X.K fa (Cl σ ρ) G H σ as G3 H3 σ3 ρ2 ∧ whileL dc d m ρ2 = some (fl, ρ'), fun σ3 H3 ⟨G3, A3, h3⟩ => ⟨m, Nat.lt_succ_self m, G3, ρ2, A3, h3⟩, ?_⟩
          refine r σ1 G2 H2 z.2 f2 ρ2 _ A2.env q2 ?_
          have aa : ∀ {G3 H3 : Hp} {σ3 : L2.St} {ρ3 : REnv}, AtS X.K fa (Cl σ1 z.2) G2 H2 σ1 as G3 H3 σ3 ρ3 → AtS X.K fa (Cl σ ρ) G H σ as G3 H3 σ3 ρ3 := fun h => ⟨(B2.then h).toAt, (B2.then h).slots.mono fun i hi => by
            rcases List.mem_append.mp hi with z | z <;> exact z⟩
          cases f2 with
          | nx =>
            simp [whileL, q, q1, q2] at hw
            exact fun σ3 G3 H3 A3 => ⟨G3, aa A3, hw⟩
          | cont =>
            simp [whileL, q, q1, q2] at hw
            exact fun σ3 G3 H3 A3 => ⟨G3, aa A3, hw⟩
          | brk =>
            simp [whileL, q, q1, q2] at hw
            obtain ⟨rfl, rfl⟩ := hw
            exact fun σ3 G3 H3 A3 => k σ3 G3 H3 (aa A3)
          | ret l =>
            simp [whileL, q, q1, q2] at hw
            obtain ⟨rfl, rfl⟩ := hw
            exact fun v σ3 G3 H3 A3 rr nn => k v σ3 G3 H3 (aa A3) rr (nn.aft B2.aft)
/-- for -/
def forL (g : DenG) (db : DenS) : List T → REnv → Option (Fl × REnv)
  | [], ρ => some (.nx, ρ)
  | x :: xs, ρ => (g x ρ).bind fun ρa => (db ρa).bind fun q => match q.1 with
    | .nx => forL g db xs q.2
    | .cont => forL g db xs q.2
    | .brk => some (.nx, q.2)
    | .ret l => some (.ret l, q.2)
def dFor (as : List Nat) (src : DenI) (g : DenG) (db : DenS) : DenS := fun ρ => (src ρ).bind fun s => if s.2.1.all (fun i => !as.contains i) then
  (forL g db s.1 (hideO s.2.1 s.2.2)).map fun r => (r.1, restE s.2.2 r.2 s.2.1.toList) else none
end
end LW
namespace LW
open PySem PySem.Spec PyProof.Rows L2

section
variable {X : Cx} {fa : Nat → Addr} {tg iter : Expr} {body : List Stmt} {as bs : List Nat} {d : DenS} {pos : Pos}
theorem SS.for {src : DenI} {g : DenG} (hp : PassesOwn (model X.prog X.w) X.A X.env X.xe) (hc : X.calm = true) (hi : SI X fa tg iter src) (hg : SG X fa tg as g) (hb : SSs X fa body bs d) (hs : ∀ x, foldedSetIterable iter X.env x = pure x) :
    SS X fa (.For tg iter body [] pos) (as ++ bs) (dFor (as ++ bs) src g d) := by
  obtain ⟨wi, pi, ri⟩ := hi
  obtain ⟨t, p, r⟩ := hb
  refine ⟨_, ps_for hp hc pi hg p hs, fun σ G H ρ fl ρ' D E hd k => ?_⟩
  cases q0 : src ρ with
  | none => simp [dFor, q0] at hd
  | some z =>
    obtain ⟨xs, ho, ρ1⟩ := z
    by_cases hh : ho.all (fun i => !(as ++ bs).contains i) = true
    · cases q1 : forL g d xs (hideO ho ρ1) with
      | none => simp only [dFor, q0, Option.bind_some, hh, if_true, q1] at hd; cases hd
      | some rr =>
        obtain ⟨f1, ρ2⟩ := rr
        simp only [dFor, q0, Option.bind_some, hh, if_true, q1, Option.map_some] at hd
        cases hd
        refine ri σ G H ρ xs ho ρ1 _ E q0 fun J bb Kp G1 H1 A1 W kp hb => ?_
        have E0 : EnvOk X.K fa G1 H1 σ (hideO ho ρ1) := by
          cases ho with
          | none => exact A1.env
          | some i => exact A1.env.hide i
        have sub0 : ∀ a, Cl σ (hideO ho ρ1) a → Cl σ ρ1 a := by
          cases ho with
          | none => exact fun a h => h
          | some i => exact fun a h => Cl.hide h
        -- what was hidden comes back behind the loop
        have back : ∀ {G2 H2 : Hp} {σ2 : L2.St} {ρ2 : REnv}, AtS X.K fa (Cl σ (hideO ho ρ1)) G1 H1 σ (as ++ bs) G2 H2 σ2 ρ2 → AtS X.K fa (Cl σ ρ) G H σ (as ++ bs) G2 H2 σ2 (restE ρ1 ρ2 ho.toList) ∧ ∀ a, Cl σ2 (restE ρ1 ρ2 ho.toList) a → Cl σ2 ρ2 a ∨ Cl σ ρ1 a := by
          intro G2 H2 σ2 ρ2 A2
          have upA0 : Aft (Cl σ ρ1) (Cl σ2 ρ2) G1 H1 G2 H2 := ⟨A2.aft.gg, fun a o e n => A2.aft.keep a o e fun z => n (sub0 a z), fun a o e n g => A2.aft.gn a o e (fun z => n (sub0 a z)) g, A2.aft.there, fun a h => by
            rcases A2.aft.cs a h with z | z
            · exact .inl (sub0 a z)
            · exact .inr z⟩
          cases ho with
          | none => exact ⟨⟨⟨A2.env, A1.aft.trans upA0⟩, A2.slots⟩, fun a h => .inl h⟩
          | some i =>
            have hni : i ∉ as ++ bs := by
              simp only [Option.all_some, Bool.not_eq_true', List.contains_eq_mem, decide_eq_false_iff_not] at hh
              exact hh
            have hσ : σ2[i]? = σ[i]? := A2.slots.keep i hni
            have lenE : ρ1.length = ρ2.length := by rw [A1.env.len, A2.env.len, A2.slots.len]
            have hidN : ∀ (c : OC) (a : Addr), ρ1[i]? = some (.own c) → σ[i]? = some (some (.ref a)) → ¬ Cl σ (ρ1.set i .un) a := fun c a e1 e2 ⟨j, c', f1, f2⟩ => by
              rcases set_get f1 with ⟨_, z⟩ | ⟨n, z⟩
              · cases z
              · exact n (A1.env.inj j i c' c a z e1 f2 e2)
            have csub : ∀ a, Cl σ2 (restE ρ1 ρ2 [i]) a → Cl σ2 ρ2 a ∨ Cl σ ρ1 a := fun a ⟨j, c, e1, e2⟩ => by
              rcases restE_get lenE e1 with ⟨h1, h2⟩ | ⟨h1, h2⟩
              · have : j = i := by simpa using h1
                subst this
                rw [hσ] at e2
                exact .inr ⟨j, c, h2, e2⟩
              · exact .inl ⟨j, c, h2, e2⟩
            refine ⟨⟨⟨⟨A2.env.same, by show (restE ρ1 ρ2 [i]).length = _; rw [restE_len]; exact A2.env.len, fun j x e => ?_, fun j c e => ?_, fun j j' c c' a e1 e2 e3 e4 => ?_⟩, A1.aft.trans ⟨upA0.gg, upA0.keep, upA0.gn, upA0.there, fun a h => ?_⟩⟩, A2.slots⟩, csub⟩
            · rcases restE_get lenE e with ⟨h1, h2⟩ | ⟨h1, h2⟩
              · have : j = i := by simpa using h1
                subst this
                obtain ⟨v, f1, f2⟩ := A1.env.t j x h2
                exact ⟨v, by rw [hσ]; exact f1, f2.mono A2.aft.gg⟩
              · exact A2.env.t j x h2
            · rcases restE_get lenE e with ⟨h1, h2⟩ | ⟨h1, h2⟩
              · have : j = i := by simpa using h1
                subst this
                obtain ⟨a, o, f1, f2, f3, f4⟩ := A1.env.own j c h2
                have nc := hidN c a h2 f1
                exact ⟨a, o, by rw [hσ]; exact f1, A2.aft.gn a o f3 nc f2, A2.aft.keep a o f3 nc, f4.mono A2.aft.gg⟩
              · exact A2.env.own j c h2
            · have cross : ∀ (j' : Nat) (c c' : OC), ρ1[i]? = some (.own c) → σ2[i]? = some (some (.ref a)) → ρ2[j']? = some (.own c') → σ2[j']? = some (some (.ref a)) → False := fun j' c c' h2 h3 h5 h6 => by
                rw [hσ] at h3
                obtain ⟨p, o, f1, f2, f3, f4⟩ := A1.env.own i c h2
                rw [h3] at f1; cases f1
                rcases A2.aft.cs a ⟨j', c', h5, h6⟩ with z | z
                · exact hidN c a h2 h3 z
                · rw [z] at f3; cases f3
              rcases restE_get lenE e1 with ⟨h1, h2⟩ | ⟨h1, h2⟩
              · have : j = i := by simpa using h1
                subst this
                rcases restE_get lenE e2 with ⟨h3, h4⟩ | ⟨h3, h4⟩
                · have : j' = j := by simpa using h3
                  exact this.symm
                · exact (cross j' c c' h2 e3 h4 e4).elim
              · rcases restE_get lenE e2 with ⟨h3, h4⟩ | ⟨h3, h4⟩
                · have : j' = i := by simpa using h3
                  subst this
                  exact (cross j c' c h4 e4 h2 e3).elim
                · exact A2.env.inj j j' c c' a h2 h4 e3 e4
            · rcases csub a h with z | z
              · rcases A2.aft.cs a z with y | y
                · exact .inl (sub0 a y)
                · exact .inr y
              · exact .inl z
        refine ⟨fun i m σ' H' => m = xs.length - i ∧ i ≤ xs.length ∧ ∃ (G' : Hp) (ρi : REnv), AtS X.K fa (Cl σ (hideO ho ρ1)) G1 H1 σ (as ++ bs) G' H' σ' ρi ∧ Kp G' H' ∧ forL g d (xs.drop i) ρi = some (fl, ρ2),
          ⟨xs.length, by simp, Nat.zero_le _, G1, hideO ho ρ1, ⟨At.start E0, Slots.refl⟩, kp, by simpa using q1⟩, ?_⟩
        rintro i m σi Hi ⟨rfl, hle, Gi, ρi, Ai, kpi, hf⟩
        by_cases hlt : i < xs.length
        · have ex : xs[i]? = some xs[i] := by simp [hlt]
          obtain ⟨go, yl⟩ := W.go i Gi Hi xs[i] kpi Ai.env.same ex
          have hdrop : xs.drop i = xs[i] :: xs.drop (i + 1) := List.drop_eq_getElem_cons hlt
          rw [hdrop] at hf
          cases qa : g xs[i] ρi with
          | none => simp [forL, qa] at hf
          | some ρa =>
            cases qb : d ρa with
            | none => simp [forL, qa, qb] at hf
            | some pb =>
              obtain ⟨f2, ρb⟩ := pb
              refine .inr ⟨go, fun σ' H' => ∃ (G' : Hp), AtS X.K fa (Cl σ (hideO ho ρ1)) G1 H1 σ (as ++ bs) G' H' σ' ρb ∧ Kp G' H' ∧ forL g d (xs.drop (i + 1)) ρb = some (fl, ρ2), fun σ' H' ⟨G', h1, h2, h3⟩ => ⟨xs.length - (i + 1), by omega, rfl, hlt, G', ρb, h1, h2, h3⟩, fun v H' hv => ?_⟩
              obtain ⟨G', a1, sm, rv⟩ := yl v H' hv
              have a1' : Aft (Cl σi ρi) (Cl σi ρi) Gi Hi G' H' := a1.wide fun _ h => h.elim
              have E1 : EnvOk X.K fa G' H' σi ρi := Ai.env.carry a1 sm fun _ _ h => h
              refine ⟨G', ρi, xs[i], ρa, E1, rv, qa, fun σ2 E2 c2 s2 => ?_⟩
              have a2 : Aft (Cl σi ρi) (Cl σ2 ρa) G' H' G' H' := ⟨Same.refl _, fun _ _ h _ => h, fun _ _ _ _ h => h, fun _ h => h, fun a h => .inl (c2 a h)⟩
              have step : ∀ {G3 H3 : Hp} {σ3 : L2.St} {ρ3 : REnv}, AtS X.K fa (Cl σ2 ρa) G' H' σ2 bs G3 H3 σ3 ρ3 → AtS X.K fa (Cl σ (hideO ho ρ1)) G1 H1 σ (as ++ bs) G3 H3 σ3 ρ3 ∧ Aft (Cl σi ρi) (Cl σ3 ρ3) Gi Hi G3 H3 := fun {G3 H3 σ3 ρ3} h =>
                ⟨⟨⟨h.env, Ai.aft.trans ((a1'.trans a2).trans h.aft)⟩, (Ai.slots.trans (s2.trans h.slots)).mono fun j hj => by
                  rcases List.mem_append.mp hj with z | z <;> exact z⟩, (a1'.trans a2).trans h.aft⟩
              have bsN : ∀ b ∈ bb, ¬ Cl σi ρi b := fun b hbb => by
                obtain ⟨f1, f2⟩ := hb b hbb
                cases q : H1 b with
                | none => exact absurd q f1
                | some o => exact Ai.aft.ne q f2
              have nwB : ∀ {v : V} {l : L}, NewL H' v l → NewL H v l := fun h => ((h.aft a1').aft Ai.aft).aft A1.aft
              refine r σ2 G' H' ρa f2 ρb _ E2 qb ?_
              cases f2 with
              | nx =>
                simp [forL, qa, qb] at hf
                exact fun σ3 G3 H3 A3 => ⟨G3, (step A3).1, W.stb _ _ _ _ _ _ kpi (step A3).2 bsN, hf⟩
              | cont =>
                simp [forL, qa, qb] at hf
                exact fun σ3 G3 H3 A3 => ⟨G3, (step A3).1, W.stb _ _ _ _ _ _ kpi (step A3).2 bsN, hf⟩
              | brk =>
                simp [forL, qa, qb] at hf
                obtain ⟨rfl, rfl⟩ := hf
                exact fun σ3 G3 H3 A3 => k σ3 G3 H3 (back (step A3).1).1
              | ret l =>
                simp [forL, qa, qb] at hf
                obtain ⟨rfl, rfl⟩ := hf
                intro v σ3 G3 H3 A3 rl nl
                obtain ⟨b1, b2⟩ := back (step A3).1
                refine k v σ3 G3 H3 b1 ?_ (nwB nl)
                cases l with
                | un => exact rl
                | t x => exact rl
                | ref j => exact rl
                | own c =>
                  obtain ⟨pa, o, rfl, gp, nc, hh2, ro⟩ := rl
                  refine ⟨pa, o, rfl, gp, fun hc => ?_, hh2, ro⟩
                  rcases b2 pa hc with z | z
                  · exact nc z
                  · obtain ⟨j, c', f1, f2⟩ := z
                    obtain ⟨a', o', u1, u2, u3, u4⟩ := A1.env.own j c' f1
                    rw [f2] at u1; cases u1
                    have : H1 pa = none := ((nl.aft a1').aft Ai.aft) pa rfl
                    rw [this] at u3; cases u3
        · have hi : i = xs.length := by omega
          subst hi
          simp [forL] at hf
          obtain ⟨rfl, rfl⟩ := hf
          exact .inl ⟨W.stop _ Gi Hi kpi Ai.env.same (Nat.le_refl _), k σi Gi Hi (back Ai).1⟩
    · simp only [dFor, q0, Option.bind_some, hh] at hd
      cases hd
end
end LW
namespace LW
open PySem PySem.Spec PyProof.Rows L2

section
variable {K : PySem.W.Frag} {fa : Nat → Addr} {C0 : Addr → Prop} {G0 H0 G H : Hp} {σ : L2.St} {ρ : REnv}
/-- a slot's own object is changed -/
theorem At.put (A : At K fa C0 G0 H0 G H σ ρ) {i : Nat} {a : Addr} {c c' : OC} {o o' : HO} (hi : ρ[i]? = some (.own c)) (hs : σ[i]? = some (some (.ref a))) (h : H a = some o) (r : ORep K fa G o' c') :
    At K fa C0 G0 H0 G (upd H a o') σ (ρ.set i (.own c')) := by
  obtain ⟨p, o2, f1, g, f3, f4⟩ := A.env.own i c hi
  rw [hs] at f1; cases f1
  have hil : i < ρ.length := (List.getElem?_eq_some_iff.mp hi).1
  have key : ∀ (j : Nat) (d : OC), (ρ.set i (L.own c'))[j]? = some (.own d) → ∃ d', ρ[j]? = some (.own d') := fun j d f => by
    rcases set_get f with ⟨rfl, _⟩ | ⟨_, f⟩
    · exact ⟨_, hi⟩
    · exact ⟨d, f⟩
  have sub : ∀ b, Cl σ (ρ.set i (.own c')) b → Cl σ ρ b := fun b ⟨j, d, e1, e2⟩ => by
    obtain ⟨d', k⟩ := key j d e1
    exact ⟨j, d', k, e2⟩
  refine ⟨⟨fun b u e => ?_, by simp [A.env.len], fun j x e => ?_, fun j d e => ?_, fun j j' d d' b e1 e2 e3 e4 => ?_⟩, ⟨A.aft.gg, fun b u e nc => ?_, A.aft.gn, fun b e => ?_, fun b hb => A.aft.cs b (sub b hb)⟩⟩
  · rw [upd_ne (ne_of_none e g)]; exact A.env.same b u e
  · rcases set_get e with ⟨_, z⟩ | ⟨_, f⟩
    · cases z
    · exact A.env.t j x f
  · rcases set_get e with ⟨rfl, z⟩ | ⟨n, f⟩
    · cases z
      exact ⟨a, o', hs, g, upd_same, r⟩
    · obtain ⟨b, u, u1, u2, u3, u4⟩ := A.env.own j d f
      refine ⟨b, u, u1, u2, ?_, u4⟩
      rw [upd_ne (show b ≠ a from fun z => by subst z; exact n (A.env.inj j i _ _ b f hi u1 hs))]
      exact u3
  · obtain ⟨d1, k1⟩ := key j d e1
    obtain ⟨d2, k2⟩ := key j' d' e2
    exact A.env.inj j j' d1 d2 b k1 k2 e3 e4
  · have hb : b ≠ a := fun z => by
      subst z
      rcases A.aft.cs b ⟨i, c, hi, hs⟩ with y | y
      · exact nc y
      · rw [y] at e; cases e
    rw [upd_ne hb]
    exact A.aft.keep b u e nc
  · by_cases hb : b = a
    · subst hb; rw [upd_same] at e; cases e
    · rw [upd_ne hb] at e; exact A.aft.there b e
end

/-! ### methods that change a slot's own list -/
/-- a rule by trees: the list before, the arguments; what comes out (a tree), the list behind -/
def MeT (K : PySem.W.Frag) (fa : Nat → Addr) (r : V → List V → Hp → VK → Prop) (f : List T → List T → Option (T × List T)) : Prop :=
  ∀ (G H : Hp) (a : Addr) (ws vs : List V) (xs ts xs' : List T) (y : T) (Q : VK), Same G H → RepAll K fa G ws xs → RepAll K fa G vs ts → H a = some (.lst ws) → f xs ts = some (y, xs') →
    (∀ v ws', Rep K fa G v y → RepAll K fa G ws' xs' → Q v (upd H a (.lst ws'))) → r (.ref a) vs H Q
def dMeth (i : Nat) (f : List T → List T → Option (T × List T)) (da : DenA) : Den := fun ρ => if isOwnL ρ i then (da ρ).bind fun p => (match p.2[i]? with
  | some (.own (.lst xs)) => (f xs p.1).map fun r => (.t r.1, p.2.set i (.own (.lst r.2)))
  | _ => none) else none
theorem meth_end {K : PySem.W.Frag} {fa : Nat → Addr} {r : V → List V → Hp → VK → Prop} {f : List T → List T → Option (T × List T)} {i : Nat} {G H G1 H1 : Hp} {σ : L2.St} {ρ ρ1 : REnv} {a : Addr} {vs : List V} {ts xs xs' : List T} {y : T} {Q : VK} (me : MeT K fa r f)
    (A : At K fa (Cl σ ρ) G H G1 H1 σ ρ1) (R : RepAll K fa G1 vs ts) (hi : ρ1[i]? = some (.own (.lst xs))) (hs : σ[i]? = some (some (.ref a))) (hf : f xs ts = some (y, xs'))
    (k : ∀ v G' H', Post K fa G H σ ρ (.t y) (ρ1.set i (.own (.lst xs'))) v G' H' → Q v H') : r (.ref a) vs H1 Q := by
  obtain ⟨p, o, f1, g, f3, f4⟩ := A.env.own i _ hi
  rw [hs] at f1; cases f1
  cases o with
  | lst ws =>
    refine me G1 H1 a ws vs xs ts xs' y Q A.env.same f4 R f3 hf fun v ws' rv rw' => ?_
    have B := A.put (c' := .lst xs') (o' := .lst ws') hi hs f3 rw'
    exact k v G1 _ ⟨B.aft, B.env, rv, trivial⟩
  | _ => exact (show False from f4).elim
section
variable {X : Cx} {fa : Nat → Addr} {e : Expr} {es : List Expr} {x : Str} {name : Str} {pos apos cpos : Pos} {id : String} {r : V → List V → Hp → VK → Prop} {f : List T → List T → Option (T × List T)} {i : Nat}
theorem SE.meth {da : DenA} (slot : Slot "list" name id) (hty : typeOf (.builtin id) = pure (.type "method_descriptor")) (hm : MtR X id r) (me : MeT X.K fa r f)
    (hN : X.N[i]? = some x) (hv : Vis X.env.scope x) (hd : (x == ("__debug__" : Str)) = false) (hcd : (x == ("__classdict__" : Str)) = false) (ha : SA X fa (e :: es) da)
    (hfew : ((backTo cpos (starEach (e :: es) X.env)).all (fun x => !x.1) && (backToKw cpos (keywordEach [] X.env)).all (fun x => x.1.isSome)
      && decide ((e :: es).length + ([] : List Keyword).length + (if ([] : List Keyword).isEmpty then 0 else 1) < 30)) = true)
    (hline : (apos.endLine == cpos.line) = true) (hs : starEach (e :: es) X.env = (false, eval e X.env) :: starEach es X.env) (hplain : (backTo cpos (starEach es X.env)).any (·.1) = false) :
    SE X fa (.Call (.Attribute (.Name x pos) name apos) (e :: es) [] cpos) (dMeth i f da) := by
  obtain ⟨t, pt, rt⟩ := ha
  refine ⟨_, pe_bm PySem.F.plainAttrs_list slot hty hm (pe_var hN hv hd hcd) pt rfl hfew hline hs hplain, fun σ G H ρ l ρ' Q E hdd kk => ?_⟩
  by_cases ho : isOwnL ρ i = true
  · cases q : da ρ with
    | none => simp [dMeth, q, ho] at hdd
    | some z =>
      cases q2 : z.2[i]? with
      | none => simp [dMeth, q, q2, ho] at hdd
      | some m =>
        cases m with
        | own c =>
          cases c with
          | lst xs =>
            cases q1 : f xs z.1 with
            | none => simp [dMeth, q, q2, q1, ho] at hdd
            | some rr =>
              obtain ⟨y, xs'⟩ := rr
              simp [dMeth, q, q2, q1, ho] at hdd
              obtain ⟨rfl, rfl⟩ := hdd
              obtain ⟨c', hc'⟩ := isOwnL_inv ho
              obtain ⟨a0, o0, e0, g0, h0, r0⟩ := E.own i _ hc'
              cases o0 with
              | lst ws0 =>
                refine ⟨_, e0, .inl ⟨rfl, ws0, .of h0⟩, ?_⟩
                exact rt σ G H ρ z.1 z.2 _ E q fun vs G1 H1 A1 R1 => meth_end me A1 R1 q2 e0 q1 kk
              | _ => exact (show False from r0).elim
          | _ => simp [dMeth, q, q2, ho] at hdd
        | _ => simp [dMeth, q, q2, ho] at hdd
  · simp [dMeth, ho] at hdd
theorem SE.meth0 (slot : Slot "list" name id) (hty : typeOf (.builtin id) = pure (.type "method_descriptor")) (hm : MtR X id r) (me : MeT X.K fa r f)
    (hN : X.N[i]? = some x) (hv : Vis X.env.scope x) (hd : (x == ("__debug__" : Str)) = false) (hcd : (x == ("__classdict__" : Str)) = false) (hline : (apos.endLine == cpos.line) = true) :
    SE X fa (.Call (.Attribute (.Name x pos) name apos) [] [] cpos) (dMeth i f dNil) := by
  refine ⟨_, pe_bm0 PySem.F.plainAttrs_list slot hty hm (pe_var hN hv hd hcd) rfl hline, fun σ G H ρ l ρ' Q E hdd kk => ?_⟩
  by_cases ho : isOwnL ρ i = true
  · obtain ⟨xs, q2⟩ := isOwnL_inv ho
    cases q1 : f xs [] with
    | none => simp [dMeth, dNil, q2, q1, ho] at hdd
    | some rr =>
      obtain ⟨y, xs'⟩ := rr
      simp [dMeth, dNil, q2, q1, ho] at hdd
      obtain ⟨rfl, rfl⟩ := hdd
      obtain ⟨a0, o0, e0, g0, h0, r0⟩ := E.own i _ q2
      cases o0 with
      | lst ws0 => exact ⟨_, e0, .inl ⟨rfl, ws0, .of h0⟩, meth_end me (At.start E) .nil q2 e0 q1 kk⟩
      | _ => exact (show False from r0).elim
  · simp [dMeth, ho] at hdd
end
def fAppend (xs ts : List T) : Option (T × List T) := match ts with
  | [x] => if xs.length < line then some (.non, xs ++ [x]) else none
  | _ => none
theorem me_append {K : PySem.W.Frag} {fa : Nat → Addr} : MeT K fa rAppend fAppend := by
  intro G H a ws vs xs ts xs' y Q s rw rv h hf k
  unfold fAppend at hf
  split at hf
  · rename_i x
    split at hf
    · rename_i hz
      cases hf
      cases rv with
      | cons r1 r2 =>
        cases r2
        exact ⟨a, ws, _, rfl, rfl, h, by rw [rw.length, ← line_eq]; exact hz, k .non _ .non (rw.append (.one r1))⟩
    · cases hf
  · cases hf
def fExtend (xs ts : List T) : Option (T × List T) := match ts with
  | [.lst ys] => if xs.length + ys.length ≤ line then some (.non, xs ++ ys) else none
  | _ => none
theorem me_extend {K : PySem.W.Frag} {fa : Nat → Addr} : MeT K fa rExtend fExtend := by
  intro G H a ws vs xs ts xs' y Q s rw rv h hf k
  unfold fExtend at hf
  split at hf
  · rename_i ys
    split at hf
    · rename_i hz
      cases hf
      cases rv with
      | cons r1 r2 =>
        cases r2
        cases r1 with
        | lst g rr =>
          exact ⟨a, _, ws, _, rfl, rfl, h, s _ _ g, by rw [rw.length, rr.length, ← line_eq]; exact hz, k .non _ .non (rw.append rr)⟩
    · cases hf
  · cases hf
def fPop (xs ts : List T) : Option (T × List T) := match ts with
  | [] => (xs[xs.length - 1]?).map fun y => (y, xs.dropLast)
  | _ => none
theorem me_pop {K : PySem.W.Frag} {fa : Nat → Addr} : MeT K fa rPop fPop := by
  intro G H a ws vs xs ts xs' y Q s rw rv h hf k
  unfold fPop at hf
  split at hf
  · cases q : xs[xs.length - 1]? with
    | none => simp [q] at hf
    | some z =>
      simp [q] at hf
      obtain ⟨rfl, rfl⟩ := hf
      cases rv
      obtain ⟨v, h1, h2⟩ := rw.get q
      exact ⟨a, ws, v, rfl, rfl, h, by rw [rw.length]; exact h1, k v _ h2 rw.dropLast⟩
  · cases hf
def fReverse (xs ts : List T) : Option (T × List T) := match ts with
  | [] => some (.non, xs.reverse)
  | _ => none
theorem me_reverse {K : PySem.W.Frag} {fa : Nat → Addr} : MeT K fa rReverse fReverse := by
  intro G H a ws vs xs ts xs' y Q s rw rv h hf k
  unfold fReverse at hf
  split at hf
  · cases hf
    cases rv
    exact ⟨a, ws, rfl, rfl, h, k .non _ .non rw.rev⟩
  · cases hf

/-! ### stores into a slot's own list -/
def tDGm (K : PySem.W.Frag) (fa : Nat → Addr) (as : List Nat) (g : DenG) : TG := fun v σ H Q => ∃ (G : Hp) (ρ : REnv) (x : T) (ρ' : REnv), EnvOk K fa G H σ ρ ∧ Rep K fa G v x ∧ g x ρ = some ρ' ∧
  ∀ σ' G' H', AtS K fa (Cl σ ρ) G H σ as G' H' σ' ρ' → Q σ' H'
def SM (X : Cx) (fa : Nat → Addr) (tg : Expr) (as : List Nat) (g : DenG) : Prop := PG X tg (tDGm X.K fa as g)
def tDGms (K : PySem.W.Frag) (fa : Nat → Addr) (as : List Nat) (g : DenGs) : TGs := fun vs σ H Q => ∃ (G : Hp) (ρ : REnv) (xs : List T) (ρ' : REnv), EnvOk K fa G H σ ρ ∧ RepAll K fa G vs xs ∧ g xs ρ = some ρ' ∧
  ∀ σ' G' H', AtS K fa (Cl σ ρ) G H σ as G' H' σ' ρ' → Q σ' H'
def SMs (X : Cx) (fa : Nat → Addr) (ts : List Expr) (as : List Nat) (g : DenGs) : Prop := PGs X ts (tDGms X.K fa as g)
section
variable {X : Cx} {fa : Nat → Addr} {e tg : Expr} {es : List Expr} {pos : Pos} {as bs : List Nat} {d de : Den}
theorem SG.m {g : DenG} (h : SG X fa tg as g) : SM X fa tg as g := ⟨fun pins s σ H v u Q I r ⟨G, ρ, x, ρ', E, rx, hg, k⟩ =>
  h.run pins s σ H v u Q I r ⟨G, ρ, x, ρ', E, rx, hg, fun σ' E' c' s' => k σ' G H ⟨⟨E', Same.refl _, fun _ _ h _ => h, fun _ _ _ _ h => h, fun _ h => h, fun a z => .inl (c' a z)⟩, s'⟩⟩⟩
theorem SMs.nil : SMs X fa [] [] gNilT := ⟨fun pins s σ H vs us Q I r ⟨G, ρ, xs, ρ', E, rx, hg, k⟩ => by
  cases xs with
  | nil =>
    cases hg
    cases rx
    exact pgs_nil.run pins s σ H [] us Q I r ⟨rfl, k σ G H ⟨At.start E, Slots.refl⟩⟩
  | cons x xs => cases hg⟩
theorem SMs.cons {g : DenG} {gs : DenGs} (h1 : SM X fa e as g) (h2 : SMs X fa es bs gs) (hs : (assignEach (e :: es) X.env).map (·.2) = assign e X.env :: (assignEach es X.env).map (·.2)) : SMs X fa (e :: es) (as ++ bs) (gConsT g gs) :=
  ⟨fun pins s σ H vs us Q I r ⟨G, ρ, xs, ρ', E, rx, hg, k⟩ => by
  have h1' : PG X e (tDGm X.K fa as g) := h1
  have h2' : PGs X es (tDGms X.K fa bs gs) := h2
  refine (pgs_cons h1' h2' hs).run pins s σ H vs us Q I r ?_
  cases xs with
  | nil => cases hg
  | cons x xs =>
    cases rx with
    | @cons v vs _ _ a b =>
      cases q : g x ρ with
      | none => simp [gConsT, q] at hg
      | some ρ1 =>
        simp [gConsT, q] at hg
        exact ⟨v, vs, rfl, G, ρ, x, ρ1, E, a, q, fun σ1 G1 H1 A1 => ⟨G1, ρ1, xs, ρ', A1.env, b.mono A1.aft.gg, hg, fun σ2 G2 H2 A2 => k σ2 G2 H2 (A1.then A2)⟩⟩⟩
theorem SM.tup {gs : DenGs} {kk n : Nat} (hc : X.calm = true) (h : SMs X fa es as gs) (hn : (assignEach es X.env).length = n) (hst : (assignEach es X.env).findIdx? (·.1) = none) : SM X fa (.Tuple es kk pos) as (gTupT n gs) :=
  ⟨fun pins s σ H v u Q I r ⟨G, ρ, x, ρ', E, rx, hg, k⟩ => by
  have h' : PGs X es (tDGms X.K fa as gs) := h
  refine (pg_tup hc h' hn hst).run pins s σ H v u Q I r ?_
  unfold gTupT at hg
  split at hg
  · rename_i xs
    split at hg
    · rename_i hl
      cases rx with
      | tup s1 a => exact ⟨_, _, rfl, same_sqT E.same s1, by rw [a.length]; exact hl, G, ρ, xs, ρ', E, a, hg, k⟩
    · cases hg
  · cases hg⟩
/-- xs[i] = .. -/
def gSubT (j : Nat) (di : Den) : DenG := fun y ρ => if isOwnL ρ j then (di ρ).bind fun p => p.1.asInt.bind fun k => (match p.2[j]? with
  | some (.own (.lst xs)) => (ixN xs.length k).map fun m => p.2.set j (.own (.lst (xs.set m y)))
  | _ => none) else none
theorem SM.sub {i : Expr} {j : Nat} {x : Str} {pn : Pos} {di : Den} (hN : X.N[j]? = some x) (hv : Vis X.env.scope x) (hd : (x == ("__debug__" : Str)) = false) (hcd : (x == ("__classdict__" : Str)) = false) (hi : SE X fa i di)
    (ha : ∀ v, assign (.Subscript (.Name x pn) i pos) X.env v = (do
      let ov ← holding [v] (eval (.Name x pn) X.env)
      let iv ← holding [v, ov] (eval i X.env)
      standAt pos
      holding [v, ov, iv] (setItem ov iv v)
      release [v, ov, iv] [])) : SM X fa (.Subscript (.Name x pn) i pos) [] (gSubT j di) := by
  obtain ⟨t, pt, rt⟩ := hi
  refine ⟨fun pins s σ H v u Q I r ⟨G, ρ, y, ρ', E, ry, hg, k⟩ => (pg_sub (pe_var hN hv hd hcd) pt set_list ha).run pins s σ H v u Q I r ?_⟩
  by_cases ho : isOwnL ρ j = true
  · cases q : di ρ with
    | none => simp [gSubT, ho, q] at hg
    | some z =>
      cases q1 : z.1.asInt with
      | none => simp [gSubT, ho, q, q1] at hg
      | some kx =>
        cases q2 : z.2[j]? with
        | none => simp [gSubT, ho, q, q1, q2] at hg
        | some m =>
          cases m with
          | own c =>
            cases c with
            | lst xs =>
              cases q3 : ixN xs.length kx with
              | none => simp [gSubT, ho, q, q1, q2, q3] at hg
              | some mm =>
                simp [gSubT, ho, q, q1, q2, q3] at hg
                subst hg
                obtain ⟨c', hc'⟩ := isOwnL_inv ho
                obtain ⟨a0, o0, e0, g0, h0, r0⟩ := E.own j _ hc'
                refine ⟨_, e0, rt σ G H ρ z.1 z.2 _ E q fun v2 G1 H1 P => ?_⟩
                obtain ⟨p, o, f1, g, f3, f4⟩ := P.env.own j _ q2
                rw [e0] at f1; cases f1
                have rp := P.rep
                rw [asInt_inv q1] at rp
                cases o with
                | lst ws =>
                  have f4 : RepAll X.K fa G1 ws xs := f4
                  refine ⟨a0, ws, kx, mm, rfl, Rep.int_inv rp, f3, by rw [f4.length]; exact q3, ?_⟩
                  have A1 : At X.K fa (Cl σ ρ) G H G1 H1 σ z.2 := ⟨P.env, P.aft⟩
                  exact k σ G1 _ ⟨A1.put (c' := .lst (xs.set mm y)) (o' := .lst (ws.set mm v)) q2 e0 f3 (f4.set mm (ry.mono P.aft.gg)), Slots.refl⟩
                | _ => exact (show False from f4).elim
            | _ => simp [gSubT, ho, q, q1, q2] at hg
          | _ => simp [gSubT, ho, q, q1, q2] at hg
  · simp [gSubT, ho] at hg
theorem SS.asgM {g : DenG} (h : SE X fa e de) (hg : SM X fa tg as g) (hs : swapsWithSole [tg] e pos.line X.env = pure false) (hw : swappedStores [tg] e X.env = pure none) (h1 : (assignEach [tg] X.env).map (·.2) = [assign tg X.env]) :
    SS X fa (.Assign [tg] e pos) as (dAsg de g) := by
  obtain ⟨t, p, r⟩ := h
  have hg' : PG X tg (tDGm X.K fa as g) := hg
  refine ⟨_, ps_asg p hg' hs hw h1, fun σ G H ρ fl ρ' D E hd k => ?_⟩
  cases q : de ρ with
  | none => simp [dAsg, q] at hd
  | some z =>
    cases q1 : z.1.tree with
    | none => simp [dAsg, q, q1] at hd
    | some x =>
      cases q2 : g x z.2 with
      | none => simp [dAsg, q, q1, q2] at hd
      | some ρ2 =>
        simp [dAsg, q, q1, q2] at hd
        obtain ⟨rfl, rfl⟩ := hd
        refine r σ G H ρ z.1 z.2 _ E q fun v G1 H1 P => ?_
        obtain ⟨G2, E2, R2, A2, sm, _⟩ := toTree P.env P.rep P.new P.aft q1
        exact ⟨G2, z.2, x, ρ2, E2, R2, q2, fun σ' G' H' A' => k σ' G' H' ⟨⟨A'.env, A2.trans A'.aft⟩, A'.slots⟩⟩
end
end LW
namespace LW
open PySem PySem.Spec PyProof.Rows L2

/-! ### name op= e -/
section
variable {X : Cx} {fa : Nat → Addr} {e : Expr} {es : List Expr} {pos : Pos} {de : Den}
def dAug (i : Nat) (g : REnv → L → L → Option L) (d : Den) : DenS := fun ρ => match ρ[i]? with
  | some (.t x) => (d ρ).bind fun p => (g p.2 (.t x) p.1).bind fun l => (stoE i l p.2).map fun r => (.nx, r)
  | _ => none
theorem SS.aug {i : Nat} {x : Str} {op : Operator} {r : R2} {g : REnv → L → L → Option L} {pos' : Pos} (hN : X.N.Nodup) (hi : X.N[i]? = some x) (hx : Loc X.env.scope x) (h : SE X fa e de) (ho : OpR X (inplaceOp op) r) (hg : OpT X.K fa r g) (hf : X.fn x = true ∨ X.env.scope.names.lookup x = some .local) :
    SS X fa (.AugAssign (.Name x pos') op e pos) [i] (dAug i g de) := by
  obtain ⟨t, p, rt⟩ := h
  refine ⟨_, ps_aug hN hi hx p ho hf, fun σ G H ρ fl ρ' D E hd k => ?_⟩
  unfold dAug at hd
  split at hd
  · rename_i y q0
    cases q : de ρ with
    | none => simp [q] at hd
    | some z =>
      cases q1 : g z.2 (.t y) z.1 with
      | none => simp [q, q1] at hd
      | some l =>
        cases q2 : stoE i l z.2 with
        | none => simp [q, q1, q2] at hd
        | some ρ2 =>
          simp [q, q1, q2] at hd
          obtain ⟨rfl, rfl⟩ := hd
          obtain ⟨v, e1, e2⟩ := E.t i y q0
          refine ⟨v, e1, rt σ G H ρ z.1 z.2 _ E q fun w G1 H1 P => ?_⟩
          have rv : LRep X.K fa G1 H1 (Cl σ z.2) σ v (.t y) := e2.mono P.aft.gg
          refine hg _ _ _ _ _ _ _ _ _ _ _ _ _ ⟨⟨P.env, P.aft⟩, rv, trivial, P.rep, P.new⟩ q1 fun u G2 H2 R => ?_
          exact k _ G2 H2 (sto_ok R.post q2)
  · cases hd
def gIAdd (_ : REnv) (l1 l2 : L) : Option L :=
  match l1, l2 with
  | .t (.int i), .t (.int j) => some (.t (.int (i + j)))
  | .t (.str i), .t (.str j) => if i.length + j.length ≤ line then some (.t (.str (i ++ j))) else none
  | _, _ => none
theorem opt_iadd {K : PySem.W.Frag} : OpT K fa (fun x y H Q => rI0 (fun i j => .int (i + j)) x y H Q ∨ (∃ i j, x = .str i ∧ y = .str j ∧ i.length + j.length ≤ sizeLine ∧ Q (.str (i ++ j)) H)) gIAdd := by
  intro C0 G0 H0 G H σ ρ v1 v2 l1 l2 l Q O e k
  unfold gIAdd at e
  split at e
  · cases e
    exact .inl ⟨_, _, Rep.int_inv O.r1, Rep.int_inv O.r2, k _ _ _ (O.toAt.int _)⟩
  · split at e
    · rename_i hz
      cases e
      exact .inr ⟨_, _, Rep.str_inv O.r1, Rep.str_inv O.r2, by rw [← line_eq]; exact hz, k _ _ _ (O.toAt.str _)⟩
    · cases e
  · cases e
theorem iop_addT : OpR X (inplaceOp .Add) (fun x y H Q => rI0 (fun i j => .int (i + j)) x y H Q ∨ (∃ i j, x = .str i ∧ y = .str j ∧ i.length + j.length ≤ sizeLine ∧ Q (.str (i ++ j)) H)) := iop_add.or iop_add_str
def gIMul (_ : REnv) (l1 l2 : L) : Option L :=
  match l1, l2 with
  | .t (.int i), .t (.int j) => if (decide (-(18446744073709551616) < i) && decide (i < 18446744073709551616)) || (decide (-(18446744073709551616) < j) && decide (j < 18446744073709551616)) then some (.t (.int (i * j))) else none
  | _, _ => none
theorem opt_imul {K : PySem.W.Frag} : OpT K fa (rI CMul fun i j => .int (i * j)) gIMul := by
  intro C0 G0 H0 G H σ ρ v1 v2 l1 l2 l Q O e k
  unfold gIMul at e
  split at e
  · split at e
    · rename_i h
      cases e
      refine ⟨_, _, Rep.int_inv O.r1, Rep.int_inv O.r2, ?_, k _ _ _ (O.toAt.int _)⟩
      simp only [Bool.or_eq_true, Bool.and_eq_true, decide_eq_true_eq] at h
      rcases h with h | h
      · exact .inl ⟨by omega, by omega⟩
      · exact .inr ⟨by omega, by omega⟩
    · cases e
  · cases e
/-! ### xs[i] op= e -/
theorem get_list : PGet X (rIxL X.K) := by
  intro pins s σ H x y v u Q I rx ry h
  obtain ⟨p, xs, i, z, rfl, rfl, hq, he, q⟩ := h
  cases rx
  obtain ⟨t, rfl⟩ := ry
  obtain ⟨its, r, pl, hz⟩ := I.list hq
  obtain ⟨j, h1, h2, h3, h4, h5⟩ := atI_get he
  obtain ⟨w, ew, rw'⟩ := r.get h2
  have hl := r.length
  have hn := line63
  have fin : EP X pins σ Q w s := ⟨z, H, I, rw', q⟩
  by_cases h0 : 0 ≤ i
  · have hj : i.toNat = j := by
      rw [seqIndex_of h0 h5] at h1
      exact Option.some.inj h1
    exact wpAny_getItem_list pl.isList h0 (by omega) (by rw [hj]; simpa using ew) fin
  · have hj : (i + (its.toArray.size : Int)).toNat = j := by
      rw [seqIndex_neg (by omega) h4] at h1
      rw [List.size_toArray, ← hl]
      exact Option.some.inj h1
    exact wpAny_getItem_list_neg pl.isList (by omega) (by rw [List.size_toArray] <;> omega) (by omega) (by rw [hj]; simpa using ew) fin
def dAugS (j : Nat) (g : REnv → L → L → Option L) (di de : Den) : DenS := fun ρ => if isOwnL ρ j then (di ρ).bind fun p => p.1.asInt.bind fun k => match p.2[j]? with
  | some (.own (.lst xs)) => (atI xs k).bind fun x => (de p.2).bind fun q => (g q.2 (.t x) q.1).bind fun l => l.tree.bind fun z => (match q.2[j]? with
    | some (.own (.lst ys)) => (ixN ys.length k).map fun m => (.nx, q.2.set j (.own (.lst (ys.set m z))))
    | _ => none)
  | _ => none else none
theorem SS.augS {i : Expr} {j : Nat} {x : Str} {pn tpos : Pos} {di : Den} {op : Operator} {r : R2} {g : REnv → L → L → Option L} (hN : X.N[j]? = some x) (hv : Vis X.env.scope x) (hd : (x == ("__debug__" : Str)) = false) (hcd : (x == ("__classdict__" : Str)) = false) (hi : SE X fa i di) (he : SE X fa e de)
    (ho : OpR X (inplaceOp op) r) (hg : OpT X.K fa r g) (ha : ∀ ov iv new, augStore i ov iv new = (do holding [new, ov, iv] (setItem ov iv new); release [new, ov, iv] []; pure .next)) :
    SS X fa (.AugAssign (.Subscript (.Name x pn) i tpos) op e pos) [] (dAugS j g di de) := by
  obtain ⟨t, pt, rt⟩ := hi
  obtain ⟨t2, pt2, rt2⟩ := he
  refine ⟨_, ps_augS (pe_var hN hv hd hcd) pt get_list pt2 ho set_list ha, fun σ G H ρ fl ρ' D E hdd k => ?_⟩
  by_cases hoo : isOwnL ρ j = true
  · obtain ⟨c', hc'⟩ := isOwnL_inv hoo
    obtain ⟨a0, o0, e0, g0, h0, r0⟩ := E.own j _ hc'
    cases q : di ρ with
    | none => simp [dAugS, hoo, q] at hdd
    | some z =>
      cases q1 : z.1.asInt with
      | none => simp [dAugS, hoo, q, q1] at hdd
      | some kx =>
        simp only [dAugS, hoo, q, q1, if_true, Option.bind_some] at hdd
        split at hdd
        · rename_i xs q2
          cases q3 : atI xs kx with
          | none => simp [q3] at hdd
          | some x0 =>
            cases q4 : de z.2 with
            | none => simp [q3, q4] at hdd
            | some w =>
              cases q5 : g w.2 (.t x0) w.1 with
              | none => simp [q3, q4, q5] at hdd
              | some l =>
                cases q6 : l.tree with
                | none => simp [q3, q4, q5, q6] at hdd
                | some zz =>
                  simp only [q3, q4, q5, q6, Option.bind_some] at hdd
                  split at hdd
                  · rename_i ys q7
                    cases q8 : ixN ys.length kx with
                    | none => simp [q8] at hdd
                    | some m =>
                      simp [q8] at hdd
                      obtain ⟨rfl, rfl⟩ := hdd
                      refine ⟨_, e0, rt σ G H ρ z.1 z.2 _ E q fun v1 G1 H1 P1 => ?_⟩
                      obtain ⟨p, o, f1, g1, f3, f4⟩ := P1.env.own j _ q2
                      rw [e0] at f1; cases f1
                      have rp := P1.rep
                      rw [asInt_inv q1] at rp
                      have hk := Rep.int_inv rp
                      cases o with
                      | lst ws =>
                        obtain ⟨vx, hx1, hx2⟩ := atI_rep (show RepAll X.K fa G1 ws xs from f4) q3
                        refine ⟨a0, ws, kx, vx, rfl, hk, .of f3, hx1, ?_⟩
                        refine rt2 σ G1 H1 z.2 w.1 w.2 _ P1.env q4 fun v2 G2 H2 P2 => ?_
                        have A2 : At X.K fa (Cl σ ρ) G H G2 H2 σ w.2 := ⟨P2.env, P1.aft.trans P2.aft⟩
                        have rv : LRep X.K fa G2 H2 (Cl σ w.2) σ vx (.t x0) := hx2.mono P2.aft.gg
                        refine hg _ _ _ _ _ _ _ _ _ _ _ _ _ ⟨A2, rv, trivial, P2.rep, P2.new.aft P1.aft⟩ q5 fun v3 G3 H3 R => ?_
                        obtain ⟨G4, E4, R4, A4, sm4, _⟩ := toTree R.env R.r1 R.n1 R.aft q6
                        obtain ⟨p2, o2, u1, u2, u3, u4⟩ := E4.own j _ q7
                        rw [e0] at u1; cases u1
                        cases o2 with
                        | lst ws2 =>
                          have u4 : RepAll X.K fa G4 ws2 ys := u4
                          refine ⟨a0, ws2, kx, m, rfl, hk, u3, by rw [u4.length]; exact q8, ?_⟩
                          exact k σ G4 _ ⟨(At.put (c' := .lst (ys.set m zz)) (o' := .lst (ws2.set m v3)) ⟨E4, A4⟩ q7 e0 u3 (u4.set m R4)), Slots.refl⟩
                        | _ => exact (show False from u4).elim
                      | _ => exact (show False from f4).elim
                  · cases hdd
        · cases hdd
  · simp [dAugS, hoo] at hdd
end

/-! ### calls of built-ins -/
section
variable {X : Cx} {fa : Nat → Addr} {e e2 : Expr} {es : List Expr} {pos p : Pos} {d d1 d2 : Den} {x : Str} {id T0 : String} {r : List V → Hp → VK → Prop}
theorem SE.bi1 {g : REnv → L → Option L} (hc : CallR X (.builtin id) r) (hg : Gl X x) (hm : X.mg x = none) (hv : bootBuiltins x = some (.builtin id)) (h : SE X fa e d) (ht : UnT X.K fa (fun x H Q => r [x] H Q) g)
    (hn : x ≠ "__name__") (hdb : (x == ("__debug__" : Str)) = false) (he : starEach (e :: []) X.env = (false, eval e X.env) :: starEach [] X.env) : SE X fa (.Call (.Name x p) [e] [] pos) (den1 g d) :=
  h.un (fun ta pa => pe_callB hc hg hm hv (pa_cons pa pa_nil he) hn hdb he rfl) ht
theorem SE.bi2 {g : REnv → L → L → Option L} (hc : CallR X (.builtin id) r) (hg : Gl X x) (hm : X.mg x = none) (hv : bootBuiltins x = some (.builtin id)) (h : SE X fa e d1) (h2 : SE X fa e2 d2) (ht : OpT X.K fa (fun x y H Q => r [x, y] H Q) g)
    (hn : x ≠ "__name__") (hdb : (x == ("__debug__" : Str)) = false) (he : starEach (e :: [e2]) X.env = (false, eval e X.env) :: starEach [e2] X.env) (he2 : starEach (e2 :: []) X.env = (false, eval e2 X.env) :: starEach [] X.env) (hpl : (backTo pos (starEach [e2] X.env)).any (·.1) = false) : SE X fa (.Call (.Name x p) [e, e2] [] pos) (den2 g d1 d2) :=
  h.two h2 (fun ta tb pa pb => pe_callB hc hg hm hv (pa_cons pa (pa_cons pb pa_nil he2) he) hn hdb he hpl) ht
theorem SE.ty1 {g : REnv → L → Option L} (hc : CallR X (.type T0) r) (hg : Gl X x) (hm : X.mg x = none) (hv : bootBuiltins x = some (.type T0)) (h : SE X fa e d) (ht : UnT X.K fa (fun x H Q => r [x] H Q) g)
    (hn : x ≠ "__name__") (hdb : (x == ("__debug__" : Str)) = false) (he : starEach (e :: []) X.env = (false, eval e X.env) :: starEach [] X.env) : SE X fa (.Call (.Name x p) [e] [] pos) (den1 g d) :=
  h.un (fun ta pa => pe_callTy hc hg hm hv (pa_cons pa pa_nil he) hn hdb he rfl) ht
end

section
variable {X : Cx} {K : PySem.W.Frag} {fa : Nat → Addr}
/-- len -/
def gLen (ρ : REnv) (l : L) : Option L := match l with
  | .t (.tup xs) => some (.t (.int xs.length))
  | .t (.lkl xs) => some (.t (.int xs.length))
  | .t (.str z) => if z.length ≤ line then some (.t (.int z.length)) else none
  | l => (l.lview ρ).map fun xs => .t (.int xs.length)
theorem unt_len : UnT K fa (fun x H Q => ∃ y n, [x] = [y] ∧ LenV K y H n ∧ Q (.int n) H) gLen := by
  intro C0 G0 H0 G H σ ρ v1 l1 l Q O e k
  unfold gLen at e
  split at e
  · rename_i xs
    cases e
    cases (show Rep K fa G v1 _ from O.r1) with
    | tup s a => exact ⟨_, _, rfl, .inr ⟨_, same_sqT O.env.same s, rfl⟩, k _ _ _ (by rw [a.length]; exact O.toAt.int _)⟩
  · rename_i xs
    cases e
    cases (show Rep K fa G v1 _ from O.r1) with
    | lkl s a => exact ⟨_, _, rfl, .inl ⟨_, O.env.same.seq s, rfl⟩, k _ _ _ (by rw [a.length]; exact O.toAt.int _)⟩
  · split at e
    · rename_i z hz
      cases e
      have e1 : v1 = V.str z := Rep.str_inv O.r1
      subst e1
      exact ⟨_, z.length, rfl, ⟨by rw [← line_eq]; exact hz, rfl⟩, k _ _ _ (O.toAt.int _)⟩
    · cases e
  · cases q : l1.lview ρ with
    | none => simp [q] at e
    | some xs =>
      simp [q] at e
      subst e
      obtain ⟨a, vs, rfl, hp, rp⟩ := lview_ok O.env O.r1 q
      exact ⟨_, _, rfl, .inl ⟨_, .of hp, rfl⟩, k _ _ _ (by rw [rp.length]; exact O.toAt.int _)⟩
/-- ints out of trees -/
def asInts : List T → Option (List Int)
  | [] => some []
  | .int i :: xs => (asInts xs).map fun r => i :: r
  | _ :: _ => none
theorem asInts_inv : ∀ {xs : List T} {ns : List Int}, asInts xs = some ns → xs = ns.map T.int
  | [], ns, h => by cases h; rfl
  | x :: xs, ns, h => by
    cases x with
    | int i =>
      cases q : asInts xs with
      | none => simp [asInts, q] at h
      | some r =>
        simp [asInts, q] at h
        subst h
        rw [asInts_inv q]
        rfl
    | _ => cases h
theorem asInts_map (ns : List Int) : asInts (ns.map T.int) = some ns := by
  induction ns with
  | nil => rfl
  | cons n ns ih => simp [asInts, ih]
def asBls : List T → Option (List Bool)
  | [] => some []
  | .bl i :: xs => (asBls xs).map fun r => i :: r
  | _ :: _ => none
theorem asBls_inv : ∀ {xs : List T} {ns : List Bool}, asBls xs = some ns → xs = ns.map T.bl
  | [], ns, h => by cases h; rfl
  | x :: xs, ns, h => by
    cases x with
    | bl i =>
      cases q : asBls xs with
      | none => simp [asBls, q] at h
      | some r =>
        simp [asBls, q] at h
        subst h
        rw [asBls_inv q]
        rfl
    | _ => cases h
theorem asBls_map (ns : List Bool) : asBls (ns.map T.bl) = some ns := by
  induction ns with
  | nil => rfl
  | cons n ns ih => simp [asBls, ih]
theorem ints_at {C0 : Addr → Prop} {G0 H0 G H : Hp} {σ : L2.St} {ρ : REnv} {v : V} {l : L} {ns : List Int} (O : Ops1 K fa C0 G0 H0 G H σ ρ v l) (h : (l.lview ρ).bind asInts = some ns) : ∃ a, v = .ref a ∧ SqL K H a (ns.map V.int) := by
  cases q : l.lview ρ with
  | none => simp [q] at h
  | some xs =>
    simp [q] at h
    obtain ⟨a, vs, rfl, hp, rp⟩ := lview_ok O.env O.r1 q
    rw [asInts_inv h] at rp
    rw [RepAll.ints rp] at hp
    exact ⟨a, rfl, .of hp⟩
theorem bls_at {C0 : Addr → Prop} {G0 H0 G H : Hp} {σ : L2.St} {ρ : REnv} {v : V} {l : L} {ns : List Bool} (O : Ops1 K fa C0 G0 H0 G H σ ρ v l) (h : (l.lview ρ).bind asBls = some ns) : ∃ a, v = .ref a ∧ SqL K H a (ns.map V.bl) := by
  cases q : l.lview ρ with
  | none => simp [q] at h
  | some xs =>
    simp [q] at h
    obtain ⟨a, vs, rfl, hp, rp⟩ := lview_ok O.env O.r1 q
    rw [asBls_inv h] at rp
    rw [RepAll.bls rp] at hp
    exact ⟨a, rfl, .of hp⟩
def gSum (ρ : REnv) (l : L) : Option L := ((l.lview ρ).bind asInts).map fun ns => .t (.int ns.sum)
theorem unt_sum : UnT K fa (fun x H Q => rSum K [x] H Q) gSum := by
  intro C0 G0 H0 G H σ ρ v1 l1 l Q O e k
  cases q : (l1.lview ρ).bind asInts with
  | none => simp [gSum, q] at e
  | some ns =>
    simp [gSum, q] at e
    subst e
    obtain ⟨a, rfl, s⟩ := ints_at O q
    exact ⟨a, ns, rfl, s, k _ _ _ (O.toAt.int _)⟩
def gAll (ρ : REnv) (l : L) : Option L := ((l.lview ρ).bind asBls).map fun bs => .t (.bl (bs.all id))
def gAny (ρ : REnv) (l : L) : Option L := ((l.lview ρ).bind asBls).map fun bs => .t (.bl (bs.any id))
theorem unt_all : UnT K fa (fun x H Q => rAll K [x] H Q) gAll := by
  intro C0 G0 H0 G H σ ρ v1 l1 l Q O e k
  cases q : (l1.lview ρ).bind asBls with
  | none => simp [gAll, q] at e
  | some ns =>
    simp only [gAll, q, Option.map_some, Option.some.injEq] at e
    subst e
    obtain ⟨a, rfl, s⟩ := bls_at O q
    exact ⟨a, ns, rfl, s, k _ _ _ (O.toAt.bl _)⟩
theorem unt_any : UnT K fa (fun x H Q => rAny K [x] H Q) gAny := by
  intro C0 G0 H0 G H σ ρ v1 l1 l Q O e k
  cases q : (l1.lview ρ).bind asBls with
  | none => simp [gAny, q] at e
  | some ns =>
    simp only [gAny, q, Option.map_some, Option.some.injEq] at e
    subst e
    obtain ⟨a, rfl, s⟩ := bls_at O q
    exact ⟨a, ns, rfl, s, k _ _ _ (O.toAt.bl _)⟩
/-- the greatest, the least of a list of ints -/
def maxI : List Int → Option Int
  | [] => none
  | x :: xs => match maxI xs with
    | none => some x
    | some m => some (if x < m then m else x)
def minI : List Int → Option Int
  | [] => none
  | x :: xs => match minI xs with
    | none => some x
    | some m => some (if m < x then m else x)
theorem maxI_spec : ∀ {ns : List Int} {m : Int}, maxI ns = some m → m ∈ ns ∧ ∀ y ∈ ns, y ≤ m
  | [], m, h => by cases h
  | x :: xs, m, h => by
    cases q : maxI xs with
    | none =>
      cases xs with
      | nil => simp [maxI] at h; subst h; simp
      | cons y ys => simp [maxI] at q; split at q <;> cases q
    | some k =>
      simp [maxI, q] at h
      obtain ⟨h1, h2⟩ := maxI_spec q
      by_cases hx : x < k
      · rw [if_pos hx] at h; subst h
        refine ⟨List.mem_cons_of_mem _ h1, fun y hy => ?_⟩
        rcases List.mem_cons.mp hy with rfl | hy
        · omega
        · exact h2 y hy
      · rw [if_neg hx] at h; subst h
        refine ⟨List.mem_cons_self, fun y hy => ?_⟩
        rcases List.mem_cons.mp hy with rfl | hy
        · omega
        · have := h2 y hy; omega
theorem minI_spec : ∀ {ns : List Int} {m : Int}, minI ns = some m → m ∈ ns ∧ ∀ y ∈ ns, m ≤ y
  | [], m, h => by cases h
  | x :: xs, m, h => by
    cases q : minI xs with
    | none =>
      cases xs with
      | nil => simp [minI] at h; subst h; simp
      | cons y ys => simp [minI] at q; split at q <;> cases q
    | some k =>
      simp [minI, q] at h
      obtain ⟨h1, h2⟩ := minI_spec q
      by_cases hx : k < x
      · rw [if_pos hx] at h; subst h
        refine ⟨List.mem_cons_of_mem _ h1, fun y hy => ?_⟩
        rcases List.mem_cons.mp hy with rfl | hy
        · omega
        · exact h2 y hy
      · rw [if_neg hx] at h; subst h
        refine ⟨List.mem_cons_self, fun y hy => ?_⟩
        rcases List.mem_cons.mp hy with rfl | hy
        · omega
        · have := h2 y hy; omega
def gMaxL (ρ : REnv) (l : L) : Option L := ((l.lview ρ).bind asInts).bind fun ns => (maxI ns).map fun m => .t (.int m)
def gMinL (ρ : REnv) (l : L) : Option L := ((l.lview ρ).bind asInts).bind fun ns => (minI ns).map fun m => .t (.int m)
theorem unt_maxL : UnT K fa (fun x H Q => rMax K [x] H Q) gMaxL := by
  intro C0 G0 H0 G H σ ρ v1 l1 l Q O e k
  cases q : (l1.lview ρ).bind asInts with
  | none => simp [gMaxL, q] at e
  | some ns =>
    cases q1 : maxI ns with
    | none => simp [gMaxL, q, q1] at e
    | some m =>
      simp [gMaxL, q, q1] at e
      subst e
      obtain ⟨a, rfl, s⟩ := ints_at O q
      obtain ⟨h1, h2⟩ := maxI_spec q1
      refine ⟨a, ns, rfl, s, List.length_pos_of_mem h1, fun m' h3 h4 => ?_⟩
      have e' : m' = m := Int.le_antisymm (h2 m' h3) (h4 m h1)
      subst e'
      exact k _ _ _ (O.toAt.int _)
theorem unt_minL : UnT K fa (fun x H Q => rMin K [x] H Q) gMinL := by
  intro C0 G0 H0 G H σ ρ v1 l1 l Q O e k
  cases q : (l1.lview ρ).bind asInts with
  | none => simp [gMinL, q] at e
  | some ns =>
    cases q1 : minI ns with
    | none => simp [gMinL, q, q1] at e
    | some m =>
      simp [gMinL, q, q1] at e
      subst e
      obtain ⟨a, rfl, s⟩ := ints_at O q
      obtain ⟨h1, h2⟩ := minI_spec q1
      refine ⟨a, ns, rfl, s, List.length_pos_of_mem h1, fun m' h3 h4 => ?_⟩
      have e' : m' = m := Int.le_antisymm (h4 m h1) (h2 m' h3)
      subst e'
      exact k _ _ _ (O.toAt.int _)
def gMax2 (_ : REnv) (l1 l2 : L) : Option L := match l1, l2 with
  | .t (.int i), .t (.int j) => some (.t (.int (if j > i then j else i)))
  | _, _ => none
def gMin2 (_ : REnv) (l1 l2 : L) : Option L := match l1, l2 with
  | .t (.int i), .t (.int j) => some (.t (.int (if j < i then j else i)))
  | _, _ => none
theorem opt_max2 : OpT K fa (fun x y H Q => ∃ i j, [x, y] = [V.int i, V.int j] ∧ Q (.int (if j > i then j else i)) H) gMax2 := by
  intro C0 G0 H0 G H σ ρ v1 v2 l1 l2 l Q O e k
  unfold gMax2 at e
  split at e
  · cases e
    exact ⟨_, _, by rw [Rep.int_inv O.r1, Rep.int_inv O.r2], k _ _ _ (O.toAt.int _)⟩
  · cases e
theorem opt_min2 : OpT K fa (fun x y H Q => ∃ i j, [x, y] = [V.int i, V.int j] ∧ Q (.int (if j < i then j else i)) H) gMin2 := by
  intro C0 G0 H0 G H σ ρ v1 v2 l1 l2 l Q O e k
  unfold gMin2 at e
  split at e
  · cases e
    exact ⟨_, _, by rw [Rep.int_inv O.r1, Rep.int_inv O.r2], k _ _ _ (O.toAt.int _)⟩
  · cases e
def gAbs (_ : REnv) (l : L) : Option L := match l with
  | .t (.int i) => some (.t (.int (if i < 0 then -i else i)))
  | _ => none
theorem unt_abs : UnT K fa (fun x H Q => ∃ i, [x] = [V.int i] ∧ Q (.int (if i < 0 then -i else i)) H) gAbs := by
  intro C0 G0 H0 G H σ ρ v1 l1 l Q O e k
  unfold gAbs at e
  split at e
  · cases e
    exact ⟨_, by rw [Rep.int_inv O.r1], k _ _ _ (O.toAt.int _)⟩
  · cases e
def gInt (_ : REnv) (l : L) : Option L := match l with
  | .t (.int i) => some (.t (.int i))
  | .t (.bl b) => some (.t (.int (if b then 1 else 0)))
  | _ => none
theorem unt_int : UnT K fa (fun x H Q => (∃ i, [x] = [V.int i] ∧ Q (.int i) H) ∨ ∃ k, [x] = [V.bl k] ∧ Q (.int (if k then 1 else 0)) H) gInt := by
  intro C0 G0 H0 G H σ ρ v1 l1 l Q O e k
  unfold gInt at e
  split at e
  · cases e
    exact .inl ⟨_, by rw [Rep.int_inv O.r1], k _ _ _ (O.toAt.int _)⟩
  · cases e
    exact .inr ⟨_, by rw [Rep.bl_inv O.r1], k _ _ _ (O.toAt.int _)⟩
  · cases e
/-- list(x), tuple(x) -/
def gList (ρ : REnv) (l : L) : Option L := match l with
  | .t (.tup xs) => some (.own (.lst xs))
  | .t (.lkl xs) => some (.own (.lst xs))
  | l => (l.lview ρ).map fun xs => .own (.lst xs)
theorem unt_list : UnT K fa (fun x H Q => ∃ p ys, [x] = [V.ref p] ∧ (SqL K H p ys ∨ SqT K H p ys) ∧ ∀ l, H l = none → Q (.ref l) (upd H l (.lst ys))) gList := by
  intro C0 G0 H0 G H σ ρ v1 l1 l Q O e k
  unfold gList at e
  split at e
  · rename_i xs
    cases e
    cases (show Rep K fa G v1 _ from O.r1) with
    | tup s a => exact ⟨_, _, rfl, .inr (same_sqT O.env.same s), fun l hl => k _ _ _ (O.toAt.lstR hl a)⟩
  · rename_i xs
    cases e
    cases (show Rep K fa G v1 _ from O.r1) with
    | lkl s a => exact ⟨_, _, rfl, .inl (O.env.same.seq s), fun l hl => k _ _ _ (O.toAt.lstR hl a)⟩
  · cases q : l1.lview ρ with
    | none => simp [q] at e
    | some xs =>
      simp [q] at e
      subst e
      obtain ⟨a, vs, rfl, hp, rp⟩ := lview_ok O.env O.r1 q
      exact ⟨_, _, rfl, .inl (.of hp), fun l hl => k _ _ _ (O.toAt.lstR hl rp)⟩
def gTuple (ρ : REnv) (l : L) : Option L := match l with
  | .t (.tup xs) => some (.t (.tup xs))
  | .t (.lkl xs) => some (.t (.tup xs))
  | l => (l.lview ρ).map fun xs => .t (.tup xs)
theorem unt_tuple : UnT K fa (fun x H Q => ∃ p ys, [x] = [V.ref p] ∧ ((SqL K H p ys ∧ ∀ l, H l = none → Q (.ref l) (upd H l (.tup ys))) ∨ (SqT K H p ys ∧ Q (.ref p) H))) gTuple := by
  intro C0 G0 H0 G H σ ρ v1 l1 l Q O e k
  unfold gTuple at e
  split at e
  · rename_i xs
    cases e
    cases (show Rep K fa G v1 _ from O.r1) with
    | tup s a => exact ⟨_, _, rfl, .inr ⟨same_sqT O.env.same s, k _ _ _ (O.toAt.tr (.tup s a))⟩⟩
  · rename_i xs
    cases e
    cases (show Rep K fa G v1 _ from O.r1) with
    | lkl s a => exact ⟨_, _, rfl, .inl ⟨O.env.same.seq s, fun l hl => k _ _ _ (O.toAt.tupR hl a)⟩⟩
  · cases q : l1.lview ρ with
    | none => simp [q] at e
    | some xs =>
      simp [q] at e
      subst e
      obtain ⟨a, vs, rfl, hp, rp⟩ := lview_ok O.env O.r1 q
      exact ⟨_, _, rfl, .inl ⟨.of hp, fun l hl => k _ _ _ (O.toAt.tupR hl rp)⟩⟩
/-- sorted(ints) -/
def insI (x : Int) : List Int → List Int
  | [] => [x]
  | y :: ys => if x ≤ y then x :: y :: ys else y :: insI x ys
def sortI : List Int → List Int
  | [] => []
  | x :: xs => insI x (sortI xs)
theorem insI_perm (x : Int) : ∀ ys : List Int, (insI x ys).Perm (x :: ys)
  | [] => .refl _
  | y :: ys => by
    unfold insI
    split
    · exact .refl _
    · exact ((insI_perm x ys).cons y).trans (List.Perm.swap x y ys)
theorem sortI_perm : ∀ xs : List Int, (sortI xs).Perm xs
  | [] => .refl _
  | x :: xs => (insI_perm x _).trans ((sortI_perm xs).cons x)
theorem insI_sorted (x : Int) : ∀ {ys : List Int}, ys.Pairwise (· ≤ ·) → (insI x ys).Pairwise (· ≤ ·)
  | [], _ => by simp [insI]
  | y :: ys, h => by
    unfold insI
    obtain ⟨h1, h2⟩ := List.pairwise_cons.mp h
    split
    · rename_i hx
      refine List.pairwise_cons.mpr ⟨fun z hz => ?_, h⟩
      rcases List.mem_cons.mp hz with rfl | hz
      · exact hx
      · have := h1 z hz; omega
    · rename_i hx
      refine List.pairwise_cons.mpr ⟨fun z hz => ?_, insI_sorted x h2⟩
      rcases List.mem_cons.mp ((insI_perm x ys).mem_iff.mp hz) with rfl | hz
      · omega
      · exact h1 z hz
theorem sortI_sorted : ∀ xs : List Int, (sortI xs).Pairwise (· ≤ ·)
  | [] => .nil
  | x :: xs => insI_sorted x (sortI_sorted xs)
theorem sorted_unique : ∀ {xs ys : List Int}, xs.Perm ys → xs.Pairwise (· ≤ ·) → ys.Pairwise (· ≤ ·) → xs = ys
  | [], ys, p, _, _ => by rw [List.nil_perm.mp p]
  | x :: xs, [], p, _, _ => by have := p.length_eq; simp at this
  | x :: xs, y :: ys, p, h1, h2 => by
    obtain ⟨a1, a2⟩ := List.pairwise_cons.mp h1
    obtain ⟨b1, b2⟩ := List.pairwise_cons.mp h2
    have e : x = y := by
      have m1 : x ∈ y :: ys := p.mem_iff.mp List.mem_cons_self
      have m2 : y ∈ x :: xs := p.mem_iff.mpr List.mem_cons_self
      rcases List.mem_cons.mp m1 with z | z
      · exact z
      · rcases List.mem_cons.mp m2 with w | w
        · exact w.symm
        · have := b1 x z
          have := a1 y w
          omega
    subst e
    rw [sorted_unique (List.Perm.cons_inv p) a2 b2]
def gSortI (ρ : REnv) (l : L) : Option L := ((l.lview ρ).bind asInts).map fun ns => .own (.lst ((sortI ns).map T.int))
theorem unt_sortI : UnT K fa (fun x H Q => rSortedI K [x] H Q) gSortI := by
  intro C0 G0 H0 G H σ ρ v1 l1 l Q O e k
  cases q : (l1.lview ρ).bind asInts with
  | none => simp [gSortI, q] at e
  | some ns =>
    simp [gSortI, q] at e
    subst e
    obtain ⟨a, rfl, s⟩ := ints_at O q
    refine ⟨a, ns, rfl, s, fun ns' p hp hs hn => ?_⟩
    rw [sorted_unique (hp.trans (sortI_perm ns).symm) hs (sortI_sorted ns)]
    exact k _ _ _ (O.toAt.lstR hn (.of_ints _))
end
end LW
namespace LW
open PySem PySem.Spec PyProof.Rows L2

/-! ### a def's body -/
def finP (fl : Fl) (ρ : REnv) : Option L := match fl with
  | .nx => some (.t .non)
  | .ret (.t x) => some (.t x)
  | .ret (.own c) => some (.own c)
  | .ret (.ref i) => (match ρ[i]? with
    | some (.own c) => some (.own c)
    | _ => none)
  | _ => none
def bodyP (n m : Nat) (d : DenS) (ts : List T) : Option L := if ts.length = n then (d (ts.map L.t ++ List.replicate (m - n) L.un)).bind fun p => finP p.1 p.2 else none
def bodyF (n m : Nat) (as : List Nat) (d : DenS) (xs ts : List T) : Option (L × List T) := if ts.length + 1 = n && !as.contains 0 then (d (L.own (.lst xs) :: (ts.map L.t ++ List.replicate (m - n) L.un))).bind fun (p : Fl × REnv) => match (p.2 : List L)[0]? with
  | some (L.own (OC.lst ys)) => (match p.1 with
    | .ret (.ref 0) => none
    | fl => (finP fl p.2).map fun r => (r, ys))
  | _ => none else none
section
variable {P : Program} {w : World} {K : PySem.W.Frag} {mg : Str → Option Value} {base : Heap} {fa : Nat → Addr} {k : Nat} {x qual : Str} {st : Stmt} {f : Addr} {fd : FuncData} {N ps : List Str} {as : List Nat} {d : DenS}
theorem env_pad {G H : Hp} {σ : L2.St} {ρ : REnv} (E : EnvOk K fa G H σ ρ) (m : Nat) : EnvOk K fa G H (σ ++ List.replicate m none) (ρ ++ List.replicate m L.un) := by
  have key : ∀ (i : Nat) (l : L), l ≠ .un → (ρ ++ List.replicate m L.un)[i]? = some l → ρ[i]? = some l := fun i l n e => by
    by_cases hi : i < ρ.length
    · rwa [List.getElem?_append_left hi] at e
    · rw [List.getElem?_append_right (by omega)] at e
      rw [List.getElem?_replicate] at e
      split at e
      · cases e; exact absurd rfl n
      · cases e
  have up : ∀ (i : Nat) (v : Option V), σ[i]? = some v → (σ ++ List.replicate m none)[i]? = some v := fun i v e => by
    rw [List.getElem?_append_left (List.getElem?_eq_some_iff.mp e).1]
    exact e
  refine ⟨E.same, by simp [E.len], fun i y e => ?_, fun i c e => ?_, fun i j c c' a e1 e2 e3 e4 => ?_⟩
  · obtain ⟨v, h1, h2⟩ := E.t i y (key i _ (fun z => by cases z) e)
    exact ⟨v, up _ _ h1, h2⟩
  · obtain ⟨a, o, h1, h2⟩ := E.own i c (key i _ (fun z => by cases z) e)
    exact ⟨a, o, up _ _ h1, h2⟩
  · have f1 := key i _ (fun z => by cases z) e1
    have f2 := key j _ (fun z => by cases z) e2
    obtain ⟨a1, o1, g1, _⟩ := E.own i c f1
    obtain ⟨a2, o2, g2, _⟩ := E.own j c' f2
    have g1' := up _ _ g1
    have g2' := up _ _ g2
    rw [e3] at g1'
    rw [e4] at g2'
    cases g1'
    cases g2'
    exact E.inj i j c c' a f1 f2 g1 g2
theorem cl_pad {σ : L2.St} {ρ : REnv} {m : Nat} {a : Addr} (hl : ρ.length = σ.length) (h : Cl (σ ++ List.replicate m none) (ρ ++ List.replicate m L.un) a) : Cl σ ρ a := by
  obtain ⟨i, c, e1, e2⟩ := h
  by_cases hi : i < ρ.length
  · rw [List.getElem?_append_left hi] at e1
    rw [List.getElem?_append_left (by omega)] at e2
    exact ⟨i, c, e1, e2⟩
  · rw [List.getElem?_append_right (by omega), List.getElem?_replicate] at e1
    split at e1 <;> cases e1
/-- what the body hands out, its own objects being new -/
theorem fin_rep {G H : Hp} {C0 : Addr → Prop} {σ0 : L2.St} {ρ' : REnv} {fl : Fl} {r : L} {D : Ends} {Q : VK} (e : finP fl ρ' = some r) (hD : D = { nx := fun _ H' => Q .non H', rt := Q })
    (hc : ∀ v σ' G' H' r, AtS K fa C0 G H σ0 as G' H' σ' ρ' → LRep K fa G' H' (fun _ => False) σ' v r → NewL H v r → (∀ i, r ≠ .ref i) → finP fl ρ' = some r → Q v H')
    (own0 : ∀ σ' G' H' (i : Nat) (c : OC) (a : Addr), AtS K fa C0 G H σ0 as G' H' σ' ρ' → fl = .ret (.ref i) → ρ'[i]? = some (.own c) → σ'[i]? = some (some (.ref a)) → H a = none) : Cont K fa C0 G H σ0 as D fl ρ' := by
  subst hD
  cases fl with
  | nx =>
    cases e
    exact fun σ' G' H' A => hc .non σ' G' H' (.t .non) A (show Rep K fa G' .non .non from Rep.non) trivial (fun i z => by cases z) rfl
  | brk => cases e
  | cont => cases e
  | ret l =>
    intro v σ' G' H' A rl nl
    cases l with
    | un => cases e
    | t y => cases e; exact hc v σ' G' H' (.t y) A rl nl (fun i z => by cases z) rfl
    | own c =>
      cases e
      obtain ⟨p, o, rfl, g, n, hh, rr⟩ := rl
      exact hc _ σ' G' H' (.own c) A ⟨p, o, rfl, g, fun z => z, hh, rr⟩ nl (fun i z => by cases z) rfl
    | ref i =>
      have e0 := e
      simp only [finP] at e
      split at e
      · rename_i c q
        cases e
        obtain ⟨p, o, f1, f2, f3, f4⟩ := A.env.own i c q
        have rl : σ'[i]? = some (some v) := rl
        rw [f1] at rl
        cases rl
        exact hc _ σ' G' H' (.own c) A ⟨p, o, rfl, f2, fun z => z, f3, f4⟩ (fun a e => by cases e; exact own0 σ' G' H' i c p A rfl q f1) (fun i z => by cases z) e0
      · cases e
theorem fn_pureK (F : Fun K x qual st f fd) (S : FnScope N ps (defScope st))
    (h : ∀ (cdv : Value) (A : Around) (outer : List Env) (s : Shared) (H : Hp) (E : XK), Room k (A.deeper (envOfC qual (defScope st) s.heap.objs.size f cdv)) →
      SSs (cxOf CX0 P w K mg base N qual (defScope st) f cdv A outer s H E).nox fa (defBody st) as d) : FnOk P w K mg base CX0 (k + 1) f fd ps (spM K fa ps.length (pureF (bodyP ps.length N.length d))) := by
  refine F.ok S (fun vs H Q E q => q.1) (fun cdv A outer s H vs Q E hr q => ?_)
  obtain ⟨t, pt, rt⟩ := h cdv A outer s H E hr
  obtain ⟨hn, G, ls, r, ls', E0, hm, kk⟩ := q
  refine ⟨t, pt, ?_⟩
  cases q1 : allT ls with
  | none => simp [pureF, q1] at hm
  | some ts =>
    have hls := allT_inv q1
    subst hls
    cases q2 : bodyP ps.length N.length d ts with
    | none => simp [pureF, q1, q2] at hm
    | some r' =>
      simp [pureF, q1, q2] at hm
      obtain ⟨rfl, rfl⟩ := hm
      unfold bodyP at q2
      split at q2
      · rename_i hlen
        cases q3 : d (ts.map L.t ++ List.replicate (N.length - ps.length) L.un) with
        | none => simp [q3] at q2
        | some pp =>
          obtain ⟨fl, ρ'⟩ := pp
          simp [q3] at q2
          have E1 := env_pad E0 (N.length - ps.length)
          have hst : L2.start N vs = vs.map some ++ List.replicate (N.length - ps.length) none := by unfold L2.start; rw [hn]
          rw [hst]
          have nocl : ∀ a, ¬ Cl (vs.map some ++ List.replicate (N.length - ps.length) none) (ts.map L.t ++ List.replicate (N.length - ps.length) L.un) a := fun a z => cl_ts (cl_pad E0.len z)
          refine rt _ G H _ fl ρ' _ E1 q3 (fin_rep q2 rfl (fun v σ' G' H' r2 A rr nn nr e2 => ?_) fun σ' G' H' i c a A e1 e2 e3 => ?_)
          · rw [q2] at e2
            cases e2
            have ck : ∀ b, Cl (vs.map some) (ts.map L.t) b → False := fun b z => cl_ts z
            refine kk v G' H' ⟨⟨A.aft.gg, fun a o e n => A.aft.keep a o e (nocl a), fun a o e n g => A.aft.gn a o e (nocl a) g, A.aft.there, fun a z => .inl z⟩, E0.carry A.aft A.env.same fun b z => (ck b z).elim, ?_, nn⟩
            cases r' with
            | un => exact rr
            | t y => exact rr
            | own c =>
              obtain ⟨p, o, rfl, g, n, hh, ro⟩ := rr
              exact ⟨p, o, rfl, g, fun z => ck p z, hh, ro⟩
            | ref i => exact absurd rfl (nr i)
          · rcases A.aft.cs a ⟨i, c, e2, e3⟩ with z | z
            · exact (nocl a z).elim
            · exact z
      · cases q2
theorem fn_pure (F : Fun K x qual st f fd) (S : FnScope N ps (defScope st)) (hmg : mg x = some (.ref f)) (hb : Binds K fd ps [])
    (h : ∀ (cdv : Value) (A : Around) (outer : List Env) (s : Shared) (H : Hp) (E : XK), Room k (A.deeper (envOfC qual (defScope st) s.heap.objs.size f cdv)) →
      SSs (cxOf CX0 P w K mg base N qual (defScope st) f cdv A outer s H E).nox fa (defBody st) as d) : Fn P w K mg base fa (k + 1) x ps.length (pureF (bodyP ps.length N.length d)) :=
  ⟨f, fd, ps, fn_pureK F S h, hmg, F.kp, hb⟩
theorem fn_feed (F : Fun K x qual st f fd) (S : FnScope N ps (defScope st)) (hmg : mg x = some (.ref f)) (hb : Binds K fd ps [])
    (h : ∀ (cdv : Value) (A : Around) (outer : List Env) (s : Shared) (H : Hp) (E : XK), Room k (A.deeper (envOfC qual (defScope st) s.heap.objs.size f cdv)) →
      SSs (cxOf CX0 P w K mg base N qual (defScope st) f cdv A outer s H E).nox fa (defBody st) as d) : Fn P w K mg base fa (k + 1) x ps.length (feedF (bodyF ps.length N.length as d)) := by
  refine ⟨f, fd, ps, F.ok S (fun vs H Q E q => q.1) (fun cdv A outer s H vs Q E hr q => ?_), hmg, F.kp, hb⟩
  obtain ⟨t, pt, rt⟩ := h cdv A outer s H E hr
  obtain ⟨hn, G, ls, r, ls', E0, hm, kk⟩ := q
  refine ⟨t, pt, ?_⟩
  unfold feedF at hm
  split at hm
  · rename_i xs ls
    cases q1 : allT ls with
    | none => simp [q1] at hm
    | some ts =>
      have hls := allT_inv q1
      subst hls
      cases q2 : bodyF ps.length N.length as d xs ts with
      | none => simp [q1, q2] at hm
      | some r' =>
        obtain ⟨r0, ys⟩ := r'
        simp [q1, q2] at hm
        obtain ⟨rfl, rfl⟩ := hm
        unfold bodyF at q2
        split at q2
        · rename_i hlen
          simp only [Bool.and_eq_true, decide_eq_true_eq, Bool.not_eq_true', List.contains_eq_mem, decide_eq_false_iff_not] at hlen
          cases q3 : d (L.own (.lst xs) :: (ts.map L.t ++ List.replicate (N.length - ps.length) L.un)) with
          | none => simp [q3] at q2
          | some pp =>
            obtain ⟨fl, ρ'⟩ := pp
            simp only [q3, Option.bind_some] at q2
            split at q2
            · rename_i ys' q4
              have fin : finP fl ρ' = some r0 ∧ ys' = ys ∧ fl ≠ .ret (.ref 0) := by
                split at q2
                · cases q2
                · rename_i fl2 hne
                  cases q5 : finP fl ρ' with
                  | none => simp [q5] at q2
                  | some r3 =>
                    simp [q5] at q2
                    obtain ⟨rfl, rfl⟩ := q2
                    exact ⟨rfl, rfl, hne⟩
              obtain ⟨fin, rfl, hne⟩ := fin
              have E1 := env_pad E0 (N.length - ps.length)
              have hst : L2.start N vs = vs.map some ++ List.replicate (N.length - ps.length) none := by unfold L2.start; rw [hn]
              rw [hst]
              obtain ⟨a0, o0, e0, g0, h0, r00⟩ := E0.own 0 (.lst xs) rfl
              have cl1 : ∀ a, Cl (vs.map some ++ List.replicate (N.length - ps.length) none) (L.own (.lst xs) :: ts.map L.t ++ List.replicate (N.length - ps.length) L.un) a → a = a0 := fun a z => by
                obtain ⟨i, c, f1, f2⟩ := cl_pad E0.len z
                cases i with
                | zero => rw [e0] at f2; cases f2; rfl
                | succ i =>
                  cases vs with
                  | nil => simp at f2
                  | cons v0 vs => exact (cl_ts (σ := vs.map some) ⟨i, c, f1, by simpa using f2⟩).elim
              have cl2 : ∀ (l : L) a, Cl (vs.map some) (l :: ts.map L.t) a → a = a0 := fun l a z => by
                obtain ⟨i, c, f1, f2⟩ := z
                cases i with
                | zero => rw [e0] at f2; cases f2; rfl
                | succ i =>
                  cases vs with
                  | nil => simp at f2
                  | cons v0 vs => exact (cl_ts (σ := vs.map some) ⟨i, c, f1, by simpa using f2⟩).elim
              have hE0 : (vs.map some ++ List.replicate (N.length - ps.length) (none : Option V))[0]? = some (some (.ref a0)) := by
                rw [List.getElem?_append_left (List.getElem?_eq_some_iff.mp e0).1]; exact e0
              refine rt _ G H _ fl ρ' _ E1 q3 (fin_rep fin rfl (fun v σ' G' H' r2 A rr nn nr e2 => ?_) fun σ' G' H' i c a A e1 e2 e3 => ?_)
              · rw [fin] at e2
                cases e2
                have s0 : σ'[0]? = some (some (.ref a0)) := (A.slots.keep 0 hlen.2).trans hE0
                obtain ⟨a1, o1, u1, u2, u3, u4⟩ := A.env.own 0 _ q4
                rw [s0] at u1; cases u1
                have mem0 : ∀ (l : OC), Cl (vs.map some) (L.own l :: ts.map L.t) a0 := fun l => ⟨0, l, rfl, e0⟩
                have EE : EnvOk K fa G' H' (vs.map some) (L.own (.lst ys') :: ts.map L.t) := by
                  refine ⟨A.env.same, by have := E0.len; simpa using this, fun i y e => ?_, fun i c e => ?_, fun i j c c' b e1 e2 e3 e4 => ?_⟩
                  · cases i with
                    | zero => cases e
                    | succ i =>
                      obtain ⟨v, h1, h2⟩ := E0.t (i + 1) y e
                      exact ⟨v, h1, h2.mono A.aft.gg⟩
                  · cases i with
                    | zero => cases e; exact ⟨a0, o1, e0, u2, u3, u4⟩
                    | succ i =>
                      exfalso
                      have e : (ts.map L.t)[i]? = some (.own c) := e
                      rw [List.getElem?_map] at e
                      cases q : ts[i]? <;> rw [q] at e <;> cases e
                  · have key : ∀ (i : Nat) (c : OC), (L.own (.lst ys') :: ts.map L.t)[i]? = some (.own c) → i = 0 := fun i c e => by
                      cases i with
                      | zero => rfl
                      | succ i =>
                        exfalso
                        have e : (ts.map L.t)[i]? = some (.own c) := e
                        rw [List.getElem?_map] at e
                        cases q : ts[i]? <;> rw [q] at e <;> cases e
                    rw [key i c e1, key j c' e2]
                refine kk v G' H' ⟨⟨A.aft.gg, fun a o e n => A.aft.keep a o e fun z => n (by rw [cl1 a z]; exact mem0 _), fun a o e n g => A.aft.gn a o e (fun z => n (by rw [cl1 a z]; exact mem0 _)) g, A.aft.there, fun a z => .inl (by rw [cl2 _ a z]; exact mem0 _)⟩, EE, ?_, nn⟩
                cases r0 with
                | un => exact rr
                | t y => exact rr
                | own c =>
                  obtain ⟨p, o, rfl, g, n, hh, ro⟩ := rr
                  refine ⟨p, o, rfl, g, fun z => ?_, hh, ro⟩
                  have : H p = none := nn p rfl
                  rw [cl2 _ p z] at this
                  rw [this] at h0; cases h0
                | ref i => exact absurd rfl (nr i)
              · rcases A.aft.cs a ⟨i, c, e2, e3⟩ with z | z
                · have ha := cl1 a z
                  subst ha
                  have s0 : σ'[0]? = some (some (.ref a)) := (A.slots.keep 0 hlen.2).trans hE0
                  have : i = 0 := A.env.inj i 0 c _ a e2 q4 e3 s0
                  subst this
                  exact absurd e1 hne
                · exact z
            · cases q2
        · cases q2
  · cases hm
end
end LW
namespace LW
open PySem PySem.Spec PyProof.Rows L2

/-! ### isinstance(x, T) -/
def isiB (n : String) (x : T) : Option Bool :=
  match n with
  | "list" => (match x with | .lst _ => some true | .lkl _ => some true | .fn _ => none | .dic _ _ _ => none | _ => some false)
  | "tuple" => (match x with | .tup _ => some true | .fn _ => none | .dic _ _ _ => none | _ => some false)
  | "int" => (match x with | .int _ => some true | .bl _ => some true | .fn _ => none | .dic _ _ _ => none | _ => some false)
  | "bool" => (match x with | .bl _ => some true | .fn _ => none | .dic _ _ _ => none | _ => some false)
  | "str" => (match x with | .str _ => some true | .fn _ => none | .dic _ _ _ => none | _ => some false)
  | _ => none
def tyN : T → String
  | .non => "NoneType"
  | .bl _ => "bool"
  | .int _ => "int"
  | .str _ => "str"
  | .lst _ => "list"
  | .tup _ => "tuple"
  | .lkl _ => "list"
  | .fn _ => ""
  | .dic _ _ _ => "dict"
theorem kB_list : kitB "NoneType" "list" = some false ∧ kitB "bool" "list" = some false ∧ kitB "int" "list" = some false ∧ kitB "str" "list" = some false ∧ kitB "list" "list" = some true ∧ kitB "tuple" "list" = some false := by decide +kernel
theorem kB_tuple : kitB "NoneType" "tuple" = some false ∧ kitB "bool" "tuple" = some false ∧ kitB "int" "tuple" = some false ∧ kitB "str" "tuple" = some false ∧ kitB "list" "tuple" = some false ∧ kitB "tuple" "tuple" = some true := by decide +kernel
theorem kB_int : kitB "NoneType" "int" = some false ∧ kitB "bool" "int" = some true ∧ kitB "int" "int" = some true ∧ kitB "str" "int" = some false ∧ kitB "list" "int" = some false ∧ kitB "tuple" "int" = some false := by decide +kernel
theorem kB_bool : kitB "NoneType" "bool" = some false ∧ kitB "bool" "bool" = some true ∧ kitB "int" "bool" = some false ∧ kitB "str" "bool" = some false ∧ kitB "list" "bool" = some false ∧ kitB "tuple" "bool" = some false := by decide +kernel
theorem kB_str : kitB "NoneType" "str" = some false ∧ kitB "bool" "str" = some false ∧ kitB "int" "str" = some false ∧ kitB "str" "str" = some true ∧ kitB "list" "str" = some false ∧ kitB "tuple" "str" = some false := by decide +kernel
theorem isiB_ok {n : String} {x : T} {b : Bool} (h : isiB n x = some b) : kitB (tyN x) n = some b := by
  unfold isiB at h
  split at h
  · cases x <;> cases h <;> first | exact kB_list.1 | exact kB_list.2.1 | exact kB_list.2.2.1 | exact kB_list.2.2.2.1 | exact kB_list.2.2.2.2.1 | exact kB_list.2.2.2.2.2
  · cases x <;> cases h <;> first | exact kB_tuple.1 | exact kB_tuple.2.1 | exact kB_tuple.2.2.1 | exact kB_tuple.2.2.2.1 | exact kB_tuple.2.2.2.2.1 | exact kB_tuple.2.2.2.2.2
  · cases x <;> cases h <;> first | exact kB_int.1 | exact kB_int.2.1 | exact kB_int.2.2.1 | exact kB_int.2.2.2.1 | exact kB_int.2.2.2.2.1 | exact kB_int.2.2.2.2.2
  · cases x <;> cases h <;> first | exact kB_bool.1 | exact kB_bool.2.1 | exact kB_bool.2.2.1 | exact kB_bool.2.2.2.1 | exact kB_bool.2.2.2.2.1 | exact kB_bool.2.2.2.2.2
  · cases x <;> cases h <;> first | exact kB_str.1 | exact kB_str.2.1 | exact kB_str.2.2.1 | exact kB_str.2.2.2.1 | exact kB_str.2.2.2.2.1 | exact kB_str.2.2.2.2.2
  · cases h
theorem tyX_of {K : PySem.W.Frag} {fa : Nat → Addr} {H : Hp} {v : V} {x : T} (r : Rep K fa H v x) (nf : ∀ k, x ≠ .fn k) (nd : ∀ lk ks xs, x ≠ .dic lk ks xs) : TyX K H v (.type (tyN x)) := by
  cases x with
  | non => cases r; exact .base .non
  | bl b => cases r; exact .base (.bl b)
  | int b => cases r; exact .base (.int b)
  | str b => cases r; exact .base (.str b)
  | lst xs => cases r with | lst g _ => exact .base (.lst g)
  | tup xs =>
    cases r with
    | tup s _ =>
      rcases s with (s | ⟨o, s⟩) | ⟨o, its, n, h1, h2, _⟩
      · exact .base (.tup s)
      · exact .fTuple s
      · exact .kTuple h1 h2
  | lkl xs =>
    cases r with
    | lkl s _ =>
      rcases s with (s | ⟨o, s⟩) | ⟨o, its, n, h1, h2, _⟩
      · exact .base (.lst s)
      · exact .base (.frz s)
      · exact .kList h1 h2
  | fn k => exact absurd rfl (nf k)
  | dic lk ks xs => exact absurd rfl (nd lk ks xs)
def gIsi (n : String) (ρ : REnv) (l : L) : Option L := (l.view ρ).bind fun x => (isiB n x).map fun b => .t (.bl b)
theorem unt_isi {K : PySem.W.Frag} {fa : Nat → Addr} {n : String} : UnT K fa (fun x H Q => rIsi K [x, .ty n] H Q) (gIsi n) := by
  intro C0 G0 H0 G H σ ρ v1 l1 l Q O e k
  cases q : l1.view ρ with
  | none => simp [gIsi, q] at e
  | some x =>
    cases q1 : isiB n x with
    | none => simp [gIsi, q, q1] at e
    | some b =>
      simp [gIsi, q, q1] at e
      subst e
      have r := view_ok O.env O.r1 q
      have nf : ∀ k, x ≠ .fn k := fun k z => by
        subst z
        unfold isiB at q1
        split at q1 <;> cases q1
      have nd : ∀ lk ks xs, x ≠ .dic lk ks xs := fun lk ks xs z => by
        subst z
        unfold isiB at q1
        split at q1 <;> cases q1
      exact ⟨v1, .ty n, _, .type n, b, rfl, .ty n, tyX_of r nf nd, kit_ty (isiB_ok q1), k _ _ _ (O.toAt.bl b)⟩
section
variable {X : Cx} {fa : Nat → Addr} {e : Expr} {pos p p2 : Pos} {d : Den}
theorem SE.isi {x : Str} {n : String} (hg : Gl X "isinstance") (hm : X.mg "isinstance" = none) (hg2 : Gl X x) (hm2 : X.mg x = none) (hv2 : bootBuiltins x = some (.type n)) (hn2 : x ≠ "__name__") (hd2 : (x == ("__debug__" : Str)) = false) (h : SE X fa e d)
    (he : starEach (e :: [.Name x p2]) X.env = (false, eval e X.env) :: starEach [.Name x p2] X.env) : SE X fa (.Call (.Name "isinstance" p) [e, .Name x p2] [] pos) (den1 (gIsi n) d) :=
  h.un (fun ta pa => pe_callB call_isi hg hm PyProof.Rows.boot_isinstance (pa_cons pa (pa_cons (pe_bltn (v := .ty n) hg2 hm2 hv2 rfl hn2 hd2) pa_nil rfl) he) (by decide) (by decide) he rfl) unt_isi
end

/-! ### methods of lists that change nothing -/
def gVm (f : List T → T → Option T) (ρ : REnv) (l1 l2 : L) : Option L := (l1.lview ρ).bind fun xs => (l2.view ρ).bind fun y => (f xs y).map L.t
/-- what a rule by trees has to give -/
def VmT (K : PySem.W.Frag) (fa : Nat → Addr) (r : V → List V → Hp → VK → Prop) (f : List T → T → Option T) : Prop :=
  ∀ (G H : Hp) (a : Addr) (ws : List V) (v : V) (xs : List T) (y z : T) (Q : VK), Same G H → RepAll K fa G ws xs → Rep K fa H v y → H a = some (.lst ws) → f xs y = some z → (∀ u, Rep K fa G u z → Q u H) → r (.ref a) [v] H Q
def dVm (f : List T → T → Option T) (d1 d2 : Den) : Den := fun ρ => (d1 ρ).bind fun p => (p.1.lview p.2).bind fun _ => (d2 p.2).bind fun q => (gVm f q.2 p.1 q.1).map fun l => (l, q.2)
section
variable {X : Cx} {fa : Nat → Addr} {e o : Expr} {pos apos cpos : Pos} {d d1 d2 : Den} {name : Str} {id : String} {r : V → List V → Hp → VK → Prop} {f : List T → T → Option T}
theorem SE.vm (slot : Slot "list" name id) (hty : typeOf (.builtin id) = pure (.type "method_descriptor")) (hm : MtR X id r) (vt : VmT X.K fa r f) (ho : SE X fa o d1) (h : SE X fa e d2)
    (hbase : attributeBase o name X.env (eval o X.env) = eval o X.env)
    (hfew : ((backTo cpos (starEach (e :: []) X.env)).all (fun x => !x.1) && (backToKw cpos (keywordEach [] X.env)).all (fun x => x.1.isSome)
      && decide ((e :: []).length + ([] : List Keyword).length + (if ([] : List Keyword).isEmpty then 0 else 1) < 30)) = true)
    (hline : (apos.endLine == cpos.line) = true) (hs : starEach (e :: []) X.env = (false, eval e X.env) :: starEach [] X.env) :
    SE X fa (.Call (.Attribute o name apos) [e] [] cpos) (dVm f d1 d2) := by
  obtain ⟨t1, p1, r1⟩ := ho
  obtain ⟨t2, p2, r2⟩ := h
  refine ⟨_, pe_bm PySem.F.plainAttrs_list slot hty hm p1 (pa_cons p2 pa_nil hs) hbase hfew hline hs rfl, fun σ G H ρ l ρ' Q E hd k => ?_⟩
  cases q : d1 ρ with
  | none => simp [dVm, q] at hd
  | some z =>
    cases q0 : z.1.lview z.2 with
    | none => simp [dVm, q, q0] at hd
    | some xs0 =>
    cases q1 : d2 z.2 with
    | none => simp [dVm, q, q0, q1] at hd
    | some w =>
      cases q2 : z.1.lview w.2 with
      | none => simp [dVm, q, q0, q1, gVm, q2] at hd
      | some xs =>
        cases q3 : w.1.view w.2 with
        | none => simp [dVm, q, q0, q1, gVm, q2, q3] at hd
        | some y =>
          cases q4 : f xs y with
          | none => simp [dVm, q, q0, q1, gVm, q2, q3, q4] at hd
          | some u =>
            simp [dVm, q, q0, q1, gVm, q2, q3, q4] at hd
            obtain ⟨rfl, rfl⟩ := hd
            refine r1 σ G H ρ z.1 z.2 _ E q fun v1 G1 H1 P1 => ?_
            have tv : tyV X.K "list" v1 H1 := by
              obtain ⟨a, vs, rfl, hp, _⟩ := lview_ok P1.env P1.rep q0
              exact .inl ⟨rfl, _, .of hp⟩
            refine ⟨tv, r2 σ G1 H1 z.2 w.1 w.2 _ P1.env q1 fun v2 G2 H2 P2 => ?_⟩
            have O := P1.then2 P2
            obtain ⟨a, vs, rfl, hp, rp⟩ := lview_ok O.env O.r1 q2
            exact vt G2 H2 a vs v2 xs y u _ O.env.same rp (view_ok O.env O.r2 q3) hp q4 fun u' ru => k u' G2 H2 (O.toAt.tr ru).post
end
end LW
namespace LW
open PySem PySem.Spec PyProof.Rows L2

/-! ### dicts whose keys are ints and texts -/
def T.key : T → Option Key
  | .int i => some (.inl i)
  | .str x => some (.inr x)
  | _ => none
def getD (kvs : List (Key × T)) (k : Key) : Option T := (kvs.find? fun kv => decide (kv.1 = k)).map (·.2)
def putD (kvs : List (Key × T)) (k : Key) (x : T) : List (Key × T) :=
  if (kvs.any fun kv => decide (kv.1 = k)) = true then kvs.map (fun kv => if kv.1 = k then (kv.1, x) else kv) else kvs ++ [(k, x)]
def L.dview (ρ : REnv) : L → Option (List (Key × T))
  | .t (.dic _ ks xs) => some (ks.zip xs)
  | .own (.dK kvs) => some kvs
  | .ref i => match ρ[i]? with
    | some (.own (.dK kvs)) => some kvs
    | _ => none
  | _ => none
section
variable {K : PySem.W.Frag} {fa : Nat → Addr} {G G' H H' : Hp} {σ : L2.St} {ρ ρ' : REnv} {C C' : Addr → Prop}
abbrev PrD (K : PySem.W.Frag) (fa : Nat → Addr) (G : Hp) : List (Key × V) → List (Key × T) → Prop := Paired (fun p q => p.1 = q.1 ∧ Rep K fa G p.2 q.2)
theorem prD_zip : ∀ {vs : List (Key × V)} {xs : List T}, RepAll K fa G (vs.map (·.2)) xs → PrD K fa G vs ((vs.map (·.1)).zip xs)
  | [], _, h => by cases h; exact .nil
  | v :: vs, _, h => by
    cases h with
    | cons a b => exact .cons ⟨rfl, a⟩ (prD_zip b)
theorem prD_un : ∀ {vs : List (Key × V)} {kvs : List (Key × T)}, PrD K fa G vs kvs → vs.map (·.1) = kvs.map (·.1) ∧ RepAll K fa G (vs.map (·.2)) (kvs.map (·.2))
  | _, _, .nil => ⟨rfl, .nil⟩
  | _, _, .cons a b => by
    obtain ⟨h1, h2⟩ := prD_un b
    exact ⟨by rw [List.map_cons, List.map_cons, a.1, h1], .cons a.2 h2⟩
theorem prD_get {k : Key} : ∀ {vs : List (Key × V)} {kvs : List (Key × T)}, PrD K fa G vs kvs → (∀ x, getD kvs k = some x → ∃ v, valV vs k = some v ∧ Rep K fa G v x) ∧ (getD kvs k = none → valV vs k = none)
  | _, _, .nil => ⟨fun x e => (by cases e), fun _ => rfl⟩
  | _, _, .cons (a := p) (b := q) a b => by
    obtain ⟨h1, h2⟩ := prD_get b
    by_cases e : q.1 = k
    · have e' : p.1 = k := a.1.trans e
      refine ⟨fun x hx => ?_, fun hx => ?_⟩
      · simp [getD, e] at hx
        subst hx
        exact ⟨_, valV_pos e', a.2⟩
      · simp [getD, e] at hx
    · have e' : ¬ p.1 = k := fun z => e (a.1.symm.trans z)
      refine ⟨fun x hx => ?_, fun hx => ?_⟩
      · rw [valV_neg e']
        exact h1 x (by simpa [getD, List.find?_cons, e] using hx)
      · rw [valV_neg e']
        exact h2 (by simpa [getD, List.find?_cons, e] using hx)
theorem prD_any {k : Key} : ∀ {vs : List (Key × V)} {kvs : List (Key × T)}, PrD K fa G vs kvs → (vs.any fun kv => decide (kv.1 = k)) = (kvs.any fun kv => decide (kv.1 = k))
  | _, _, .nil => rfl
  | _, _, .cons a b => by rw [List.any_cons, List.any_cons, a.1, prD_any b]
theorem prD_map {k : Key} {v : V} {x : T} (r : Rep K fa G v x) : ∀ {vs : List (Key × V)} {kvs : List (Key × T)}, PrD K fa G vs kvs →
    PrD K fa G (vs.map fun kv => if kv.1 = k then (kv.1, v) else kv) (kvs.map fun kv => if kv.1 = k then (kv.1, x) else kv)
  | _, _, .nil => .nil
  | _, _, .cons (a := p) (b := q) a b => by
    rw [List.map_cons, List.map_cons]
    refine .cons ?_ (prD_map r b)
    by_cases e : q.1 = k
    · rw [if_pos e, if_pos (a.1.trans e)]
      exact ⟨a.1, r⟩
    · rw [if_neg e, if_neg fun z => e (a.1.symm.trans z)]
      exact a
theorem prD_app : ∀ {vs ws : List (Key × V)} {kvs lvs : List (Key × T)}, PrD K fa G vs kvs → PrD K fa G ws lvs → PrD K fa G (vs ++ ws) (kvs ++ lvs)
  | _, _, _, _, .nil, g => g
  | _, _, _, _, .cons a b, g => .cons a (prD_app b g)
theorem prD_put {k : Key} {v : V} {x : T} (r : Rep K fa G v x) {vs : List (Key × V)} {kvs : List (Key × T)} (h : PrD K fa G vs kvs) : PrD K fa G (putK vs k v) (putD kvs k x) := by
  unfold putK putD
  rw [prD_any h]
  by_cases e : (kvs.any fun kv => decide (kv.1 = k)) = true
  · rw [if_pos e, if_pos e]
    exact prD_map r h
  · rw [if_neg e, if_neg e]
    exact prD_app h (.cons ⟨rfl, r⟩ .nil)
theorem prD_len : ∀ {vs : List (Key × V)} {kvs : List (Key × T)}, PrD K fa G vs kvs → vs.length = kvs.length
  | _, _, .nil => rfl
  | _, _, .cons a b => by rw [List.length_cons, List.length_cons, prD_len b]
theorem key_V {v : V} {x : T} {k : Key} (r : Rep K fa G v x) (h : x.key = some k) : v = kV k := by
  cases x <;> cases h
  · cases r; rfl
  · cases r; rfl
theorem dview_ok {v : V} {l : L} {xs : List (Key × T)} (E : EnvOk K fa G H σ ρ) (h : LRep K fa G H C σ v l) (e : l.dview ρ = some xs) : ∃ a vs, v = .ref a ∧ Rd H a (.dK vs) ∧ PrD K fa G vs xs := by
  cases l with
  | un => cases e
  | t y =>
    cases y with
    | dic lk ks ts =>
      cases e
      cases (show Rep K fa G v _ from h) with
      | dic g f q r =>
        subst q
        exact ⟨_, _, rfl, g.elim (fun g => .inl (E.same _ _ g)) fun ⟨o, g⟩ => .inr ⟨o, E.same _ _ g⟩, prD_zip r⟩
    | _ => cases e
  | own c =>
    cases c with
    | dK ys =>
      cases e
      obtain ⟨p, o, rfl, g, n, hh, r⟩ := h
      cases o with
      | dK vs => exact ⟨p, vs, rfl, .inl hh, r⟩
      | _ => exact (show False from r).elim
    | _ => cases e
  | ref i =>
    cases q : ρ[i]? with
    | none => simp only [L.dview, q] at e; cases e
    | some m =>
      simp only [L.dview, q] at e
      cases m with
      | own c =>
        cases c with
        | dK ys =>
          cases e
          obtain ⟨a, o, e1, e2, e3, e4⟩ := E.own i _ q
          have e5 : σ[i]? = some (some v) := h
          rw [e1] at e5; cases e5
          cases o with
          | dK vs => exact ⟨a, vs, rfl, .inl e3, e4⟩
          | _ => exact (show False from e4).elim
        | _ => cases e
      | _ => cases e
end
section
variable {X : Cx} {fa : Nat → Addr} {e o f : Expr} {pos apos cpos : Pos} {d d1 d2 d3 : Den}
/-- {} -/
def dDicK : Den := fun ρ => some (.own (.dK []), ρ)
theorem SE.dicK : SE X fa (.Dict [] [] pos) dDicK := by
  refine ⟨_, pe_dnewK, fun σ G H ρ l ρ' Q E hd k => ?_⟩
  cases hd
  intro p hp
  obtain ⟨a, b, c⟩ := (At.start E).newOwn (o := .dK []) (c := .dK []) hp (Paired.nil)
  exact k _ _ _ ⟨a.aft, a.env, b, c⟩
/-- d[k] -/
def gDget (ρ : REnv) (l1 l2 : L) : Option L := (l1.dview ρ).bind fun kvs => (l2.view ρ).bind fun y => y.key.bind fun k => (getD kvs k).map L.t
theorem SE.dget (hu : X.A.units + 1 < cLine) (h1 : SE X fa o d1) (h2 : SE X fa e d2) (hs : NoSl e) : SE X fa (.Subscript o e pos) (den2 gDget d1 d2) := by
  obtain ⟨t1, p1, r1⟩ := h1
  obtain ⟨t2, p2, r2⟩ := h2
  refine ⟨_, pe_dget hu p1 p2 hs, fun σ G H ρ l ρ' Q E hd k => ?_⟩
  cases q : d1 ρ with
  | none => simp [den2, q] at hd
  | some z =>
    cases q1 : d2 z.2 with
    | none => simp [den2, q, q1] at hd
    | some w =>
      cases q2 : z.1.dview w.2 with
      | none => simp [den2, q, q1, gDget, q2] at hd
      | some kvs =>
        cases q3 : w.1.view w.2 with
        | none => simp [den2, q, q1, gDget, q2, q3] at hd
        | some y =>
          cases q4 : y.key with
          | none => simp [den2, q, q1, gDget, q2, q3, q4] at hd
          | some kk =>
            cases q5 : getD kvs kk with
            | none => simp [den2, q, q1, gDget, q2, q3, q4, q5] at hd
            | some u =>
              simp [den2, q, q1, gDget, q2, q3, q4, q5] at hd
              obtain ⟨rfl, rfl⟩ := hd
              refine r1 σ G H ρ z.1 z.2 _ E q fun v1 G1 H1 P1 => r2 σ G1 H1 z.2 w.1 w.2 _ P1.env q1 fun v2 G2 H2 P2 => ?_
              have O := P1.then2 P2
              obtain ⟨a, vs, rfl, hp, rp⟩ := dview_ok O.env O.r1 q2
              obtain ⟨v, hv, rv⟩ := (prD_get rp).1 u q5
              exact ⟨a, v, rfl, .inl ⟨vs, kk, hp, key_V (view_ok O.env O.r2 q3) q4, hv.symm⟩, k v G2 H2 (O.toAt.tr rv).post⟩
/-- d.get(k, x) -/
def dDget2 (d1 d2 d3 : Den) : Den := fun ρ => (d1 ρ).bind fun p => (p.1.dview p.2).bind fun _ => (d2 p.2).bind fun q => (q.1.tree).bind fun y => y.key.bind fun k => (d3 q.2).bind fun z => z.1.tree.bind fun x => (p.1.dview z.2).map fun kvs => (.t ((getD kvs k).getD x), z.2)
theorem SE.dget2 (hu : X.A.units + 1 < cLine) (h1 : SE X fa o d1) (h2 : SE X fa e d2) (h3 : SE X fa f d3) (m : M2 X o "get" apos e f cpos) : SE X fa (.Call (.Attribute o "get" apos) [e, f] [] cpos) (dDget2 d1 d2 d3) := by
  obtain ⟨t1, p1, r1⟩ := h1
  obtain ⟨t2, p2, r2⟩ := h2
  obtain ⟨t3, p3, r3⟩ := h3
  refine ⟨_, pe_dget2 hu p1 p2 p3 m, fun σ G H ρ l ρ' Q E hd k => ?_⟩
  cases q : d1 ρ with
  | none => simp [dDget2, q] at hd
  | some z =>
    cases q0 : z.1.dview z.2 with
    | none => simp [dDget2, q, q0] at hd
    | some kv0 =>
    cases q1 : d2 z.2 with
    | none => simp [dDget2, q, q0, q1] at hd
    | some w =>
      cases q3 : w.1.tree with
      | none => simp [dDget2, q, q0, q1, q3] at hd
      | some y =>
        cases q4 : y.key with
        | none => simp [dDget2, q, q0, q1, q3, q4] at hd
        | some kk =>
          cases q5 : d3 w.2 with
          | none => simp [dDget2, q, q0, q1, q3, q4, q5] at hd
          | some u =>
            cases q6 : u.1.tree with
            | none => simp [dDget2, q, q0, q1, q3, q4, q5, q6] at hd
            | some x =>
              cases q2 : z.1.dview u.2 with
              | none => simp [dDget2, q, q0, q1, q3, q4, q5, q6, q2] at hd
              | some kvs =>
                simp [dDget2, q, q0, q1, q3, q4, q5, q6, q2] at hd
                obtain ⟨rfl, rfl⟩ := hd
                refine r1 σ G H ρ z.1 z.2 _ E q fun v1 G1 H1 P1 => ?_
                obtain ⟨a0, vs0, rfl, hp0, _⟩ := dview_ok P1.env P1.rep q0
                refine ⟨a0, rfl, .inl ⟨vs0, hp0⟩, r2 σ G1 H1 z.2 w.1 w.2 _ P1.env q1 fun v2 G2 H2 P2 => ?_⟩
                obtain ⟨G3, E3, R3, A3, sm3, _⟩ := toTree P2.env P2.rep P2.new P2.aft q3
                refine r3 σ G3 H2 w.2 u.1 u.2 _ E3 q5 fun v3 G4 H4 P4 => ?_
                obtain ⟨G5, E5, R5, A5, sm5, _⟩ := toTree P4.env P4.rep P4.new P4.aft q6
                have r1' := (P1.rep.aft A3).aft A5
                obtain ⟨a, vs, ea, hp, rp⟩ := dview_ok E5 r1' q2
                cases ea
                have A : At X.K fa (Cl σ ρ) G H G5 H4 σ u.2 := ⟨E5, (P1.aft.trans A3).trans A5⟩
                have hk : v2 = kV kk := key_V R3 q4
                cases q7 : getD kvs kk with
                | none => exact ⟨none, .inl ⟨vs, kk, hp, hk, ((prD_get rp).2 q7).symm⟩, k _ _ _ (A.tr (by rw [q7]; exact R5)).post⟩
                | some x7 =>
                  obtain ⟨v7, hv, rv⟩ := (prD_get rp).1 x7 q7
                  exact ⟨some v7, .inl ⟨vs, kk, hp, hk, hv.symm⟩, k _ _ _ (A.tr (by rw [q7]; exact rv)).post⟩
def isOwnD (ρ : REnv) (i : Nat) : Bool := match ρ[i]? with
  | some (.own (.dK _)) => true
  | _ => false
theorem isOwnD_inv {ρ : REnv} {i : Nat} (h : isOwnD ρ i = true) : ∃ xs, ρ[i]? = some (.own (.dK xs)) := by
  unfold isOwnD at h
  split at h
  · rename_i xs e; exact ⟨xs, e⟩
  · cases h
/-- d[k] = v -/
def dDput (i : Nat) (dk dv : Den) : DenS := fun ρ => (dv ρ).bind fun p => p.1.tree.bind fun x => if isOwnD p.2 i then (dk p.2).bind fun q => q.1.tree.bind fun y => y.key.bind fun k => (match q.2[i]? with
  | some (.own (.dK kvs)) => if kvs.length < line then some (.nx, q.2.set i (.own (.dK (putD kvs k x)))) else none
  | _ => none) else none
theorem SS.dput {i : Nat} {x : Str} {pn pos' : Pos} {dk dv : Den} (hu : X.A.units + 1 < cLine) (hN : X.N[i]? = some x) (hv : Vis X.env.scope x) (hd : (x == ("__debug__" : Str)) = false) (hcd : (x == ("__classdict__" : Str)) = false)
    (hk : SE X fa e dk) (h : SE X fa f dv) (hs : swapsWith f (some (.Subscript (.Name x pn) e pos')) pos.line X.env = pure false) : SS X fa (.Assign [.Subscript (.Name x pn) e pos'] f pos) [] (dDput i dk dv) := by
  obtain ⟨t1, p1, r1⟩ := h
  obtain ⟨t2, p2, r2⟩ := hk
  refine ⟨_, ps_dput hu (pe_var hN hv hd hcd) p2 p1 hs, fun σ G H ρ fl ρ' D E hd k => ?_⟩
  cases q : dv ρ with
  | none => simp [dDput, q] at hd
  | some z =>
    cases q1 : z.1.tree with
    | none => simp [dDput, q, q1] at hd
    | some xv =>
      by_cases ho : isOwnD z.2 i = true
      · cases q2 : dk z.2 with
        | none => simp [dDput, q, q1, ho, q2] at hd
        | some w =>
          cases q3 : w.1.tree with
          | none => simp [dDput, q, q1, ho, q2, q3] at hd
          | some y =>
            cases q4 : y.key with
            | none => simp [dDput, q, q1, ho, q2, q3, q4] at hd
            | some kk =>
              cases q5 : w.2[i]? with
              | none => simp [dDput, q, q1, ho, q2, q3, q4, q5] at hd
              | some m =>
                cases m with
                | own c =>
                  cases c with
                  | dK kvs =>
                    by_cases hl : kvs.length < line
                    · simp [dDput, q, q1, ho, q2, q3, q4, q5, hl] at hd
                      obtain ⟨rfl, rfl⟩ := hd
                      refine r1 σ G H ρ z.1 z.2 _ E q fun v1 G1 H1 P1 => ?_
                      obtain ⟨G2, E2, R2, A2, sm2, _⟩ := toTree P1.env P1.rep P1.new P1.aft q1
                      obtain ⟨c', hc'⟩ := isOwnD_inv ho
                      obtain ⟨a0, o0, e0, g0, h0, r0⟩ := E2.own i _ hc'
                      refine ⟨_, e0, r2 σ G2 H1 z.2 w.1 w.2 _ E2 q2 fun v2 G3 H3 P3 => ?_⟩
                      obtain ⟨G4, E4, R4, A4, sm4, _⟩ := toTree P3.env P3.rep P3.new P3.aft q3
                      obtain ⟨p, oo, f1, g, f3, f4⟩ := E4.own i _ q5
                      rw [e0] at f1; cases f1
                      cases oo with
                      | dK ws =>
                        have f4 : PrD X.K fa G4 ws kvs := f4
                        refine ⟨a0, _, rfl, .inl ⟨ws, kk, f3, key_V R4 q4, by rw [prD_len f4, ← line_eq]; exact hl, rfl⟩, ?_⟩
                        have A1 : At X.K fa (Cl σ ρ) G H G4 H3 σ w.2 := ⟨E4, A2.trans A4⟩
                        exact k σ G4 _ ⟨A1.put (c' := .dK (putD kvs kk xv)) (o' := .dK (putK ws kk v1)) q5 e0 f3 (prD_put (R2.mono A4.gg) f4), Slots.refl⟩
                      | _ => exact (show False from f4).elim
                    · simp [dDput, q, q1, ho, q2, q3, q4, q5, hl] at hd
                  | _ => simp [dDput, q, q1, ho, q2, q3, q4, q5] at hd
                | _ => simp [dDput, q, q1, ho, q2, q3, q4, q5] at hd
      · simp [dDput, q, q1, ho] at hd
end
end LW
namespace LW
open PySem PySem.Spec PyProof.Rows L2

/-! ### a dict's keys, the dict locked -/
def keyT : Key → T
  | .inl i => .int i
  | .inr x => .str x
theorem keyT_rep {K : PySem.W.Frag} {fa : Nat → Addr} {G : Hp} (k : Key) : Rep K fa G (kV k) (keyT k) := by
  cases k
  · exact .int _
  · exact .str _
theorem walks_k {K : PySem.W.Frag} {fa : Nat → Addr} {d : Addr} {o : Obj} {vs : List (Key × V)} : Walks K fa (Itk d o vs) [] ((vs.map (·.1)).map keyT) (fun G H => G d = some (.frz o (.dK vs))) where
  go := fun i G H y h s e => by
    have hi : i < vs.length := by
      have := (List.getElem?_eq_some_iff.mp e).1
      simpa using this
    refine ⟨⟨s _ _ h, hi⟩, fun w H' hy => ?_⟩
    obtain ⟨rfl, k, v, hk, rfl⟩ := hy
    refine ⟨G, Aft.same, s, ?_⟩
    have : y = keyT k := by
      simp [hk] at e
      exact e.symm
    subst this
    exact keyT_rep k
  stop := fun i G H h s hi => ⟨s _ _ h, by simpa using hi⟩
  stb := fun C C' G H G' H' h a n => a.gg _ _ h
def iKeysT (d : Den) : DenI := fun ρ => (d ρ).bind fun p => match p.1 with
  | .t (.dic true ks _) => some (ks.map keyT, none, p.2)
  | _ => none
section
variable {X : Cx} {fa : Nat → Addr} {e tg : Expr} {d : Den}
theorem SI.keys (h : SE X fa e d) : SI X fa tg e (iKeysT d) := by
  obtain ⟨t, pt, rt⟩ := h
  refine ⟨_, pi_keys pt, fun σ G H ρ xs ho ρ' R E hd k => ?_⟩
  cases q : d ρ with
  | none => simp [iKeysT, q] at hd
  | some z =>
    obtain ⟨l, ρ1⟩ := z
    cases l with
    | t x =>
      cases x with
      | dic lk ks ts =>
        cases lk with
        | true =>
          simp [iKeysT, q] at hd
          obtain ⟨rfl, rfl, rfl⟩ := hd
          refine rt σ G H ρ _ _ _ E q fun v G1 H1 P => ?_
          cases (show Rep X.K fa G1 v _ from P.rep) with
          | dic g f qq r =>
            obtain ⟨o, f⟩ := f rfl
            subst qq
            exact ⟨_, o, rfl, .inl ⟨_, P.env.same _ _ f, k _ [] _ G1 H1 ⟨P.env, P.aft⟩ walks_k f fun b hb => by cases hb⟩⟩
        | false => simp [iKeysT, q] at hd
      | _ => simp [iKeysT, q] at hd
    | _ => simp [iKeysT, q] at hd
end
mutual
/-- no dict among it -/
def T.noD : T → Bool
  | .dic _ _ _ => false
  | .tup xs => T.noDs xs
  | .lst xs => T.noDs xs
  | .lkl xs => T.noDs xs
  | _ => true
def T.noDs : List T → Bool
  | [] => true
  | x :: xs => T.noD x && T.noDs xs
end
section
variable {K : PySem.W.Frag} {fa : Nat → Addr} {G G' : Hp} {d : Addr} {od : Obj} {ks : List (Key × V)}
mutual
theorem Rep.noD (hd : G d = some (.frz od (.dK ks))) (hG : ∀ a, a ≠ d → G' a = G a) : ∀ {x : T} {v : V}, x.noD = true → Rep K fa G v x → Rep K fa G' v x
  | .non, _, _, h => by cases h; exact .non
  | .bl b, _, _, h => by cases h; exact .bl b
  | .int i, _, _, h => by cases h; exact .int i
  | .str x, _, _, h => by cases h; exact .str x
  | .lst ts, _, n, h => by
    cases h with
    | lst e r =>
      refine .lst ?_ (RepAll.noD hd hG (by simpa only [T.noD] using n) r)
      rw [hG _ fun z => by rw [z, hd] at e; cases e]; exact e
  | .tup ts, _, n, h => by
    cases h with
    | tup e r =>
      refine .tup ?_ (RepAll.noD hd hG (by simpa only [T.noD] using n) r)
      rcases e with (e | ⟨o, e⟩) | e
      · exact .inl (.inl (by rw [hG _ fun z => by rw [z, hd] at e; cases e]; exact e))
      · exact .inl (.inr ⟨o, by rw [hG _ fun z => by rw [z, hd] at e; cases e]; exact e⟩)
      · exact .inr e
  | .lkl ts, _, n, h => by
    cases h with
    | lkl e r =>
      refine .lkl ?_ (RepAll.noD hd hG (by simpa only [T.noD] using n) r)
      rcases e with (e | ⟨o, e⟩) | e
      · exact .inl (.inl (by rw [hG _ fun z => by rw [z, hd] at e; cases e]; exact e))
      · exact .inl (.inr ⟨o, by rw [hG _ fun z => by rw [z, hd] at e; cases e]; exact e⟩)
      · exact .inr e
  | .fn k, _, _, h => by cases h; exact .fn k
  | .dic _ _ _, _, n, _ => by simp [T.noD] at n
theorem RepAll.noD (hd : G d = some (.frz od (.dK ks))) (hG : ∀ a, a ≠ d → G' a = G a) : ∀ {xs : List T} {vs : List V}, T.noDs xs = true → RepAll K fa G vs xs → RepAll K fa G' vs xs
  | [], _, _, h => by cases h; exact .nil
  | x :: xs, _, n, h => by
    simp only [T.noDs, Bool.and_eq_true] at n
    cases h with
    | cons a b => exact .cons (Rep.noD hd hG n.1 a) (RepAll.noD hd hG n.2 b)
end
end
def OC.noD : OC → Bool
  | .lst xs => T.noDs xs
  | .dK ks => T.noDs (ks.map (·.2))
  | .dT ks => T.noDs (ks.map (·.2))
def L.noD : L → Bool
  | .t x => x.noD
  | .own c => c.noD
  | _ => true
theorem ORep.noD {K : PySem.W.Frag} {fa : Nat → Addr} {G G' : Hp} {d : Addr} {od : Obj} {ks : List (Key × V)} (hd : G d = some (.frz od (.dK ks))) (hG : ∀ a, a ≠ d → G' a = G a) {o : HO} {c : OC} (n : c.noD = true) (h : ORep K fa G o c) : ORep K fa G' o c := by
  have pr : ∀ {κ : Type} {vs : List (κ × V)} {ts : List (κ × T)}, T.noDs (ts.map (·.2)) = true → Paired (fun p q => p.1 = q.1 ∧ Rep K fa G p.2 q.2) vs ts → Paired (fun p q => p.1 = q.1 ∧ Rep K fa G' p.2 q.2) vs ts := by
    intro κ vs ts
    induction ts generalizing vs with
    | nil => intro _ h; cases h; exact .nil
    | cons t ts ih =>
      intro n h
      cases h with
      | cons a b =>
        simp only [List.map_cons, T.noDs, Bool.and_eq_true] at n
        exact .cons ⟨a.1, a.2.noD hd hG n.1⟩ (ih n.2 b)
  cases c with
  | lst xs =>
    cases o with
    | lst vs => exact RepAll.noD hd hG n h
    | _ => exact (show False from h).elim
  | dK xs =>
    cases o with
    | dK vs => exact pr n h
    | _ => exact (show False from h).elim
  | dT xs =>
    cases o with
    | dT vs => exact pr n h
    | _ => exact (show False from h).elim
def L.plain : L → Bool
  | .t _ => true
  | .own _ => true
  | _ => false
/-- an expression over a slot's own dict, the dict locked -/
def dLock (i : Nat) (d : Den) : Den := fun ρ => match ρ[i]? with
  | some (.own (.dK kvs)) => (d (ρ.set i (.t (.dic true (kvs.map (·.1)) (kvs.map (·.2)))))).bind fun p => if p.1.plain && p.1.noD && ((p.2 : List L).set i L.un).all L.noD then (match p.2[i]? with
    | some (.t (.dic true ks xs)) => if T.noDs xs then some (p.1, p.2.set i (.own (.dK (ks.zip xs)))) else none
    | _ => none) else none
  | _ => none
theorem SE.lock {X : Cx} {fa : Nat → Addr} {e : Expr} {d : Den} (i : Nat) (h : SE X fa e d) : SE X fa e (dLock i d) := by
  obtain ⟨t, pt, rt⟩ := h
  refine ⟨_, pe_lock pt, fun σ G H ρ l ρ' Q E hd k => ?_⟩
  unfold dLock at hd
  split at hd
  · rename_i kvs hi
    cases q : d (ρ.set i (.t (.dic true (kvs.map (·.1)) (kvs.map (·.2))))) with
    | none => simp [q] at hd
    | some z =>
      rw [q, Option.bind_some] at hd
      split at hd
      · rename_i hc
        split at hd
        · rename_i ks xs hz
          split at hd
          case isFalse => cases hd
          rename_i hxs
          cases hd
          simp only [Bool.and_eq_true] at hc
          obtain ⟨⟨hpl, hno⟩, hall⟩ := hc
          obtain ⟨a, o, hs, hg, hh, ro⟩ := E.own i _ hi
          have hil : i < ρ.length := (List.getElem?_eq_some_iff.mp hi).1
          cases o with
          | dK vs =>
            have ro : PrD X.K fa G vs kvs := ro
            obtain ⟨u1, u2⟩ := prD_un ro
            refine ⟨a, .dK vs, hh, trivial, fun od => ?_⟩
            have ga : ∀ b, b ≠ a → upd G a (.frz od (.dK vs)) b = G b := fun b hb => upd_ne hb
            have smG : Same G (upd G a (.frz od (.dK vs))) := fun b u e => by rw [upd_ne (ne_of_none e hg)]; exact e
            have cl1 : ∀ b, Cl σ (ρ.set i (.t (.dic true (kvs.map (·.1)) (kvs.map (·.2))))) b → Cl σ ρ b ∧ b ≠ a := fun b ⟨j, c, e1, e2⟩ => by
              rcases set_get e1 with ⟨_, z⟩ | ⟨n, f⟩
              · cases z
              · exact ⟨⟨j, c, f, e2⟩, fun z => by subst z; exact n (E.inj j i _ _ _ f hi e2 hs)⟩
            have E1 : EnvOk X.K fa (upd G a (.frz od (.dK vs))) (upd H a (.frz od (.dK vs))) σ (ρ.set i (.t (.dic true (kvs.map (·.1)) (kvs.map (·.2))))) := by
              refine ⟨fun b u e => ?_, by simp [E.len], fun j x e => ?_, fun j c e => ?_, fun j j' c c' b e1 e2 e3 e4 => ?_⟩
              · by_cases hb : b = a
                · subst hb; rw [upd_same] at e ⊢; exact e
                · rw [upd_ne hb] at e ⊢; exact E.same b u e
              · rcases set_get e with ⟨rfl, z⟩ | ⟨_, f⟩
                · cases z
                  refine ⟨_, hs, .dic (.inr ⟨od, upd_same⟩) (fun _ => ⟨od, upd_same⟩) u1 (RepAll.mono smG u2)⟩
                · obtain ⟨v, f1, f2⟩ := E.t j x f
                  exact ⟨v, f1, f2.mono smG⟩
              · rcases set_get e with ⟨_, z⟩ | ⟨n, f⟩
                · cases z
                · obtain ⟨b, u, f1, f2, f3, f4⟩ := E.own j c f
                  have hb : b ≠ a := fun z => by subst z; exact n (E.inj j i _ _ _ f hi f1 hs)
                  exact ⟨b, u, f1, by rw [upd_ne hb]; exact f2, by rw [upd_ne hb]; exact f3, f4.mono smG⟩
              · rcases set_get e1 with ⟨_, z⟩ | ⟨_, f⟩
                · cases z
                · rcases set_get e2 with ⟨_, z⟩ | ⟨_, f'⟩
                  · cases z
                  · exact E.inj j j' c c' b f f' e3 e4
            refine rt σ _ _ _ z.1 z.2 _ E1 q fun v G2 H2 P => ?_
            have hG2a : G2 a = some (.frz od (.dK vs)) := P.aft.gg a _ upd_same
            have hH2a : H2 a = some (.frz od (.dK vs)) := P.env.same a _ hG2a
            refine ⟨hH2a, ?_⟩
            -- the frozen part without a
            let G3 : Hp := fun b => if b = a then none else G2 b
            have g3a : G3 a = none := if_pos rfl
            have g3n : ∀ b, b ≠ a → G3 b = G2 b := fun b hb => if_neg hb
            -- the dict in the slot behind
            have dz : PrD X.K fa G3 vs (ks.zip xs) → EnvOk X.K fa G3 (upd H2 a (.dK vs)) σ (z.2.set i (.own (.dK (ks.zip xs)))) := fun pr => by
              have other : ∀ (j : Nat) (l : L), j ≠ i → z.2[j]? = some l → l.noD = true := fun j l hj e => by
                have : (z.2.set i L.un)[j]? = some l := by rw [List.getElem?_set_ne (Ne.symm hj)]; exact e
                exact List.all_eq_true.mp hall l (List.mem_of_getElem? this)
              have ownA : ∀ (j : Nat) (c : OC) (b : Addr), z.2[j]? = some (.own c) → σ[j]? = some (some (.ref b)) → b ≠ a := fun j c b e1 e2 z => by
                obtain ⟨b', u, f1, f2, _⟩ := P.env.own j c e1
                rw [e2] at f1; cases f1
                rw [z, hG2a] at f2; cases f2
              refine ⟨fun b u e => ?_, by simp [P.env.len], fun j x e => ?_, fun j c e => ?_, fun j j' c c' b e1 e2 e3 e4 => ?_⟩
              · by_cases hb : b = a
                · subst hb; rw [g3a] at e; cases e
                · rw [g3n b hb] at e; rw [upd_ne hb]; exact P.env.same b u e
              · rcases set_get e with ⟨_, z⟩ | ⟨n, f⟩
                · cases z
                · obtain ⟨w, f1, f2⟩ := P.env.t j x f
                  exact ⟨w, f1, f2.noD hG2a g3n (other j _ n f)⟩
              · rcases set_get e with ⟨rfl, z⟩ | ⟨n, f⟩
                · cases z
                  exact ⟨a, .dK vs, hs, g3a, upd_same, pr⟩
                · obtain ⟨b, u, f1, f2, f3, f4⟩ := P.env.own j c f
                  have hb := ownA j c b f f1
                  exact ⟨b, u, f1, by rw [g3n b hb]; exact f2, by rw [upd_ne hb]; exact f3, f4.noD hG2a g3n (other j _ n f)⟩
              · rcases set_get e1 with ⟨rfl, _⟩ | ⟨n1, f1⟩
                · rcases set_get e2 with ⟨rfl, _⟩ | ⟨n2, f2⟩
                  · rfl
                  · rw [hs] at e3; cases e3
                    exact absurd rfl (ownA j' c' _ f2 e4)
                · rcases set_get e2 with ⟨rfl, _⟩ | ⟨n2, f2⟩
                  · rw [hs] at e4; cases e4
                    exact absurd rfl (ownA j c _ f1 e3)
                  · exact P.env.inj j j' c c' b f1 f2 e3 e4
            have pr : PrD X.K fa G3 vs (ks.zip xs) := by
              obtain ⟨w, f1, f2⟩ := P.env.t i _ hz
              rw [hs] at f1; cases f1
              cases f2 with
              | dic g f qq r =>
                obtain ⟨o', f⟩ := f rfl
                rw [hG2a] at f; cases f
                subst qq
                exact prD_zip (RepAll.noD hG2a g3n hxs r)
            have E3 := dz pr
            have clB : ∀ b, Cl σ (z.2.set i (.own (.dK (ks.zip xs)))) b → b = a ∨ Cl σ z.2 b := fun b ⟨j, c, e1, e2⟩ => by
              rcases set_get e1 with ⟨rfl, _⟩ | ⟨_, f⟩
              · rw [hs] at e2; cases e2; exact .inl rfl
              · exact .inr ⟨j, c, f, e2⟩
            have ncA : ∀ b u, H b = some u → ¬ Cl σ ρ b → b ≠ a := fun b u e n z => n (z ▸ ⟨i, _, hi, hs⟩)
            have aft : Aft (Cl σ ρ) (Cl σ (z.2.set i (.own (.dK (ks.zip xs))))) G H G3 (upd H2 a (.dK vs)) := by
              refine ⟨fun b u e => ?_, fun b u e n => ?_, fun b u e n g => ?_, fun b e => ?_, fun b hb => ?_⟩
              · have hb : b ≠ a := ne_of_none e hg
                rw [g3n b hb]; exact P.aft.gg b u (smG b u e)
              · have hb := ncA b u e n
                rw [upd_ne hb]
                exact P.aft.keep b u (by rw [upd_ne hb]; exact e) fun c => n (cl1 b c).1
              · have hb := ncA b u e n
                rw [g3n b hb]
                exact P.aft.gn b u (by rw [upd_ne hb]; exact e) (fun c => n (cl1 b c).1) (by rw [upd_ne hb]; exact g)
              · by_cases hb : b = a
                · subst hb; rw [upd_same] at e; cases e
                · rw [upd_ne hb] at e
                  have := P.aft.there b e
                  rwa [upd_ne hb] at this
              · rcases clB b hb with rfl | hb
                · exact .inl ⟨i, _, hi, hs⟩
                · rcases P.aft.cs b hb with y | y
                  · exact .inl (cl1 b y).1
                  · refine .inr ?_
                    by_cases hb' : b = a
                    · subst hb'; rw [upd_same] at y; cases y
                    · rwa [upd_ne hb'] at y
            refine k v G3 _ ⟨aft, E3, ?_, ?_⟩
            · have rp := P.rep
              have nw := P.new
              cases hl : z.1 with
              | t y => rw [hl] at rp hno; exact Rep.noD hG2a g3n hno rp
              | own c =>
                rw [hl] at rp hno nw
                obtain ⟨p, o, rfl, f1, f2, f3, f4⟩ := rp
                have hp : p ≠ a := fun z => by rw [z, hG2a] at f1; cases f1
                refine ⟨p, o, rfl, by rw [g3n p hp]; exact f1, fun c' => ?_, by rw [upd_ne hp]; exact f3, f4.noD hG2a g3n hno⟩
                rcases clB p c' with y | y
                · exact hp y
                · exact f2 y
              | un => rw [hl] at hpl; cases hpl
              | ref j => rw [hl] at hpl; cases hpl
            · have nw := P.new
              cases hl : z.1 with
              | own c =>
                rw [hl] at nw
                intro p e
                have := nw p e
                by_cases hb : p = a
                · subst hb; rw [upd_same] at this; cases this
                · rwa [upd_ne hb] at this
              | _ => trivial
          | _ => exact (show False from ro).elim
        · cases hd
      · cases hd
  · cases hd
end LW
namespace LW
open PySem PySem.Spec PyProof.Rows L2

/-! ### list.index, list.count -/
def firstEq (y : T) : List T → Option Nat
  | [] => none
  | x :: xs => if T.eqv x y then some 0 else (firstEq y xs).map (· + 1)
theorem firstEq_spec {y : T} : ∀ {xs : List T} {j : Nat}, firstEq y xs = some j → (∃ z, xs[j]? = some z ∧ T.eqv z y = true) ∧ ∀ (m : Nat) (z : T), m < j → xs[m]? = some z → T.eqv z y = false
  | [], j, h => by cases h
  | x :: xs, j, h => by
    unfold firstEq at h
    split at h
    · rename_i e
      cases h
      exact ⟨⟨x, rfl, e⟩, fun m z hm => absurd hm (Nat.not_lt_zero m)⟩
    · rename_i e
      cases q : firstEq y xs with
      | none => rw [q] at h; cases h
      | some j' =>
        rw [q] at h
        cases h
        obtain ⟨⟨z, h1, h2⟩, h3⟩ := firstEq_spec q
        refine ⟨⟨z, by simpa using h1, h2⟩, fun m z hm hz => ?_⟩
        cases m with
        | zero => cases hz; simpa using e
        | succ m => exact h3 m z (by have hm2 : m + 1 < j' + 1 := hm; omega) (by simpa using hz)
def vIndex (xs : List T) (y : T) : Option T := if y.shp && (T.lst xs).shp then (firstEq y xs).map fun j => .int (j : Nat) else none
theorem vm_index {K : PySem.W.Frag} {fa : Nat → Addr} : VmT K fa (rIndexD K) vIndex := by
  intro G H a ws v xs y z Q sm r rv hw e k
  unfold vIndex at e
  split at e
  · rename_i hs
    simp only [Bool.and_eq_true] at hs
    cases q : firstEq y xs with
    | none => rw [q] at e; cases e
    | some j =>
      rw [q] at e
      cases e
      obtain ⟨⟨z, h1, h2⟩, h3⟩ := firstEq_spec q
      have cx : T.clns xs = true := by
        have := hs.2
        simp only [T.shp, Bool.and_eq_true, T.cln] at this
        exact this.1
      have cy : y.cln = true := by
        have := hs.1
        simp only [T.shp, Bool.and_eq_true] at this
        exact this.1
      refine ⟨a, v, y.py, T.pys xs, j, z.py, rfl, rfl, .lst (.of hw) (Rep.dps cx (RepAll.mono sm r)), Rep.dp cy rv, T.shaped hs.2, T.shaped hs.1, ?_, h2, fun m z' hm hz' => ?_, k _ (.int _)⟩
      · rw [pys_map, List.getElem?_map, h1]; rfl
      · rw [pys_map, List.getElem?_map] at hz'
        cases q2 : xs[m]? with
        | none => rw [q2] at hz'; cases hz'
        | some w =>
          rw [q2] at hz'
          cases hz'
          exact h3 m w hm q2
  · cases e
def vCountI (xs : List T) (y : T) : Option T := match y with
  | .int k => (asInts xs).map fun ns => .int (ns.count k : Nat)
  | _ => none
theorem vm_countI {K : PySem.W.Frag} {fa : Nat → Addr} : VmT K fa (rCntI K) vCountI := by
  intro G H a ws v xs y z Q sm r rv hw e k
  unfold vCountI at e
  split at e
  · rename_i kk
    cases q : asInts xs with
    | none => rw [q] at e; cases e
    | some ns =>
      rw [q] at e
      cases e
      have := asInts_inv q
      subst this
      have := r.ints
      subst this
      exact ⟨a, ns, kk, rfl, by rw [rv.int_inv], .of hw, k _ (.int _)⟩
  · cases e

/-! ### sorted, pairs of ints -/
def lexLe (a b : Int × Int) : Prop := a.1 < b.1 ∨ (a.1 = b.1 ∧ a.2 ≤ b.2)
instance (a b : Int × Int) : Decidable (lexLe a b) := inferInstanceAs (Decidable (_ ∨ _))
def insP (x : Int × Int) : List (Int × Int) → List (Int × Int)
  | [] => [x]
  | y :: ys => if lexLe x y then x :: y :: ys else y :: insP x ys
def sortP : List (Int × Int) → List (Int × Int)
  | [] => []
  | x :: xs => insP x (sortP xs)
theorem insP_perm (x : Int × Int) : ∀ ys, (insP x ys).Perm (x :: ys)
  | [] => .refl _
  | y :: ys => by
    unfold insP
    split
    · exact .refl _
    · exact ((insP_perm x ys).cons y).trans (List.Perm.swap x y ys)
theorem sortP_perm : ∀ xs, (sortP xs).Perm xs
  | [] => .refl _
  | x :: xs => (insP_perm x _).trans ((sortP_perm xs).cons x)
theorem insP_sorted (x : Int × Int) : ∀ {ys : List (Int × Int)}, ys.Pairwise lexLe → (insP x ys).Pairwise lexLe
  | [], _ => by simp [insP]
  | y :: ys, h => by
    unfold insP
    obtain ⟨h1, h2⟩ := List.pairwise_cons.mp h
    split
    · rename_i hx
      refine List.pairwise_cons.mpr ⟨fun z hz => ?_, h⟩
      rcases List.mem_cons.mp hz with rfl | hz
      · exact hx
      · have := h1 z hz
        unfold lexLe at *
        omega
    · rename_i hx
      refine List.pairwise_cons.mpr ⟨fun z hz => ?_, insP_sorted x h2⟩
      rcases List.mem_cons.mp ((insP_perm x ys).mem_iff.mp hz) with rfl | hz
      · unfold lexLe at *
        omega
      · exact h1 z hz
theorem sortP_sorted : ∀ xs, (sortP xs).Pairwise lexLe
  | [] => .nil
  | x :: xs => insP_sorted x (sortP_sorted xs)
theorem lex_unique : ∀ {xs ys : List (Int × Int)}, xs.Perm ys → xs.Pairwise lexLe → ys.Pairwise lexLe → xs = ys
  | [], ys, p, _, _ => by rw [List.nil_perm.mp p]
  | x :: xs, [], p, _, _ => by have := p.length_eq; simp at this
  | x :: xs, y :: ys, p, h1, h2 => by
    obtain ⟨a1, a2⟩ := List.pairwise_cons.mp h1
    obtain ⟨b1, b2⟩ := List.pairwise_cons.mp h2
    have e : x = y := by
      have m1 : x ∈ y :: ys := p.mem_iff.mp List.mem_cons_self
      have m2 : y ∈ x :: xs := p.mem_iff.mpr List.mem_cons_self
      rcases List.mem_cons.mp m1 with z | z
      · exact z
      · rcases List.mem_cons.mp m2 with w | w
        · exact w.symm
        · have c1 := b1 x z
          have c2 := a1 y w
          unfold lexLe at c1 c2
          exact Prod.ext (by omega) (by omega)
    subst e
    rw [lex_unique (List.Perm.cons_inv p) a2 b2]
theorem srtd_lex {k : V → Int × Int} {ys : List V} (h : SrtO.Srtd (ltP k) ys) : (ys.map k).Pairwise lexLe := by
  refine List.pairwise_map.mpr (List.Pairwise.imp (fun {x y} h => ?_) h)
  have := SrtO.lexB_no.mp h
  unfold lexLe
  omega
/-- the tuples may lie anywhere -/
def PrT (K : PySem.W.Frag) (H : Hp) (x : V) (p : Int × Int) : Prop := ∃ t, x = V.ref t ∧ SqT K H t [.int p.1, .int p.2]
def rSortedPT (K : PySem.W.Frag) : List V → Hp → VK → Prop := fun vs H Q => ∃ (a : Addr) (xs : List V) (ps : List (Int × Int)), vs = [V.ref a] ∧ SqL K H a xs ∧ xs.length = ps.length ∧ (∀ z ∈ xs.zip ps, PrT K H z.1 z.2) ∧
  ∀ ys p, ys.length = ps.length → (∀ z ∈ ys.zip (sortP ps), z ∈ xs.zip ps) → H p = none → Q (.ref p) (upd H p (.lst ys))
section
variable {X : Cx}
open Classical in
theorem cr_sortedPT : CallR X (.builtin "sorted") (rSortedPT X.K) := by
  intro pins s σ H vs us Q I r h
  obtain ⟨a, xs, ps, rfl, hs, hlen, hz0, q⟩ := h
  let k : V → Int × Int := fun v => if h : ∃ p : Int × Int, PrT X.K H v p then h.choose else (0, 0)
  have kz : ∀ v p, PrT X.K H v p → k v = p := fun v p hp => by
    have hex : ∃ p : Int × Int, PrT X.K H v p := ⟨p, hp⟩
    have e1 : k v = hex.choose := dif_pos hex
    obtain ⟨t, rfl, st⟩ := hp
    obtain ⟨t', et, st'⟩ := hex.choose_spec
    cases et
    have := I.tuple_inj st st'
    simp only [List.cons.injEq, V.int.injEq, and_true] at this
    rw [e1]
    exact Prod.ext this.1.symm this.2.symm
  have hmap : ps = xs.map k := by
    refine List.ext_getElem? fun i => ?_
    rw [List.getElem?_map]
    cases e1 : xs[i]? with
    | none => rw [List.getElem?_eq_none_iff] at e1; rw [Option.map_none, List.getElem?_eq_none_iff]; omega
    | some v =>
      have hi := (List.getElem?_eq_some_iff.mp e1).1
      have hi2 : i < ps.length := by omega
      have e2 : ps[i]? = some ps[i] := List.getElem?_eq_getElem hi2
      have hm : (v, ps[i]) ∈ xs.zip ps := List.mem_of_getElem? (List.getElem?_zip_eq_some.mpr ⟨e1, e2⟩)
      rw [e2, Option.map_some, kz v _ (hz0 _ hm)]
  have hx : ∀ x ∈ xs, ∃ t, x = V.ref t ∧ SqT X.K H t [.int (k x).1, .int (k x).2] := fun x m => by
    obtain ⟨i, hi⟩ := List.getElem?_of_mem m
    have hm : (x, k x) ∈ xs.zip ps := List.mem_of_getElem? (i := i) (List.getElem?_zip_eq_some.mpr ⟨hi, by rw [hmap, List.getElem?_map, hi]; rfl⟩)
    exact hz0 _ hm
  obtain ⟨its, rv, hl, hz⟩ := I.list hs
  rw [Vals.ref1 r]
  obtain ⟨e1, e2⟩ := refs_back rv fun x m => let ⟨t, e, _⟩ := hx x m; ⟨t, e⟩
  refine SrtO.sorted_pairsO (k := fun u => k (backV u)) hl.isList (by rw [← rv.length]; exact hz) (fun v hv => ?_) fun h' d out h1 h2 kp hd hn => ?_
  · obtain ⟨t, rfl⟩ := e2 v hv
    obtain ⟨t', e, ht⟩ := hx (V.ref t) (by rw [e1]; exact List.mem_map.mpr ⟨_, hv, rfl⟩)
    cases e
    obtain ⟨its2, r2, ⟨o, ho, hc, n, hd⟩, _⟩ := I.tuple ht
    obtain ⟨u1, u2, rfl, ⟨t1, rfl⟩, ⟨t2, rfl⟩⟩ := vals2 r2
    exact ⟨t, o, t1, t2, n, rfl, ho, hc, hd⟩
  · have h3 : ∀ u ∈ out, ∃ a, u = Value.ref a := fun u hu => e2 u (h2.perm.mem_iff.mp hu)
    obtain ⟨n, hn⟩ := hn
    have hb : SrtO.Stb (ltP k) (out.map backV) xs := by
      rw [e1]
      exact SrtO.Stb.map (ltP_swo k) backV h2
    have hsr : SrtO.Srtd (ltP k) (out.map backV) := SrtO.srtd_map h1
    have hk : (out.map backV).map k = sortP ps := lex_unique (((hb.perm.map k).trans (by rw [hmap])).trans (sortP_perm ps).symm) (srtd_lex hsr) (sortP_sorted ps)
    refine ⟨.ref d, upd H d (.lst (out.map backV)), I.laid (t' := s.toks) kp hd ⟨by rw [hb.len]; exact hz, out, n, vals_back h3, hn⟩, rfl, q _ d (by rw [hb.len]; exact hlen) (fun z hz => ?_) (I.hok.fresh hd)⟩
    rw [← hk] at hz
    obtain ⟨i, hi⟩ := List.getElem?_of_mem hz
    obtain ⟨f1, f2⟩ := List.getElem?_zip_eq_some.mp hi
    rw [List.getElem?_map, f1, Option.map_some] at f2
    have f2 := Option.some.inj f2
    have hm : z.1 ∈ xs := hb.perm.mem_iff.mp (List.mem_of_getElem? f1)
    obtain ⟨j, hj⟩ := List.getElem?_of_mem hm
    refine List.mem_of_getElem? (i := j) (List.getElem?_zip_eq_some.mpr ⟨hj, ?_⟩)
    rw [hmap, List.getElem?_map, hj, Option.map_some, f2]
end
def asPairs : List T → Option (List (Int × Int))
  | [] => some []
  | .tup [.int i, .int j] :: xs => (asPairs xs).map fun ps => (i, j) :: ps
  | _ => none
def pairT (p : Int × Int) : T := .tup [.int p.1, .int p.2]
theorem asPairs_map : ∀ ps : List (Int × Int), asPairs (ps.map pairT) = some ps
  | [] => rfl
  | p :: ps => by simp [asPairs, pairT, show asPairs (ps.map pairT) = some ps from asPairs_map ps]
theorem asPairs_inv : ∀ {xs : List T} {ps : List (Int × Int)}, asPairs xs = some ps → xs = ps.map pairT
  | [], ps, h => by cases h; rfl
  | x :: xs, ps, h => by
    unfold asPairs at h
    split at h
    · rename_i e; cases e
    · rename_i i j ys e
      cases e
      cases q : asPairs xs with
      | none => rw [q] at h; cases h
      | some qs =>
        rw [q] at h
        cases h
        rw [asPairs_inv q]
        rfl
    · cases h
theorem RepAll.zip_of {K : PySem.W.Frag} {fa : Nat → Addr} {G : Hp} : ∀ {ts : List T} {vs : List V}, vs.length = ts.length → (∀ z ∈ vs.zip ts, Rep K fa G z.1 z.2) → RepAll K fa G vs ts
  | [], [], _, _ => .nil
  | t :: ts, v :: vs, hl, h => .cons (h (v, t) (by simp)) (RepAll.zip_of (by simpa using hl) fun z hz => h z (by rw [List.zip_cons_cons]; exact List.mem_cons_of_mem _ hz))
  | [], _ :: _, hl, _ => by simp at hl
  | _ :: _, [], hl, _ => by simp at hl
theorem RepAll.zip_to {K : PySem.W.Frag} {fa : Nat → Addr} {G : Hp} : ∀ {ts : List T} {vs : List V}, RepAll K fa G vs ts → ∀ z ∈ vs.zip ts, Rep K fa G z.1 z.2
  | [], _, h, z, hz => by cases h; simp at hz
  | t :: ts, _, h, z, hz => by
    cases h with
    | cons a b =>
      rw [List.zip_cons_cons] at hz
      rcases List.mem_cons.mp hz with rfl | hz
      · exact a
      · exact RepAll.zip_to b z hz
theorem zip_mapT {α β γ : Type} (f : β → γ) : ∀ (xs : List α) (ys : List β), xs.zip (ys.map f) = (xs.zip ys).map fun z => (z.1, f z.2)
  | [], _ => by simp
  | _ :: _, [] => by simp
  | x :: xs, y :: ys => by simp [zip_mapT f xs ys]
theorem pair_rep {K : PySem.W.Frag} {fa : Nat → Addr} {G : Hp} {v : V} {p : Int × Int} (r : Rep K fa G v (pairT p)) : PrT K G v p := by
  cases (show Rep K fa G v (.tup [.int p.1, .int p.2]) from r) with
  | tup s a =>
    cases a with
    | cons a1 a2 =>
      cases a2 with
      | cons a2 a3 =>
        cases a3
        cases a1
        cases a2
        exact ⟨_, rfl, s⟩
def gSortP (ρ : REnv) (l : L) : Option L := ((l.lview ρ).bind asPairs).map fun ps => .own (.lst ((sortP ps).map pairT))
theorem unt_sortP {K : PySem.W.Frag} {fa : Nat → Addr} : UnT K fa (fun x H Q => rSortedPT K [x] H Q) gSortP := by
  intro C0 G0 H0 G H σ ρ v1 l1 l Q O e k
  cases q : l1.lview ρ with
  | none => simp [gSortP, q] at e
  | some xs =>
    cases q1 : asPairs xs with
    | none => simp [gSortP, q, q1] at e
    | some ps =>
      simp [gSortP, q, q1] at e
      subst e
      have := asPairs_inv q1
      subst this
      obtain ⟨a, ws, rfl, hp, rp⟩ := lview_ok O.env O.r1 q
      have hl : ws.length = ps.length := by rw [rp.length, List.length_map]
      have zr := RepAll.zip_to rp
      rw [zip_mapT] at zr
      refine ⟨a, ws, ps, rfl, .of hp, hl, fun z hz => ?_, fun ys p hly hzy hn => k _ _ _ (O.toAt.lstR hn (RepAll.zip_of (by rw [List.length_map, (sortP_perm ps).length_eq]; exact hly) ?_))⟩
      · obtain ⟨t, e1, e2⟩ := pair_rep (zr _ (List.mem_map.mpr ⟨z, hz, rfl⟩))
        exact ⟨t, e1, same_sqT O.env.same e2⟩
      · rw [zip_mapT]
        intro z hz
        obtain ⟨w, hw, rfl⟩ := List.mem_map.mp hz
        exact zr _ (List.mem_map.mpr ⟨w, hzy w hw, rfl⟩)
end LW
namespace LW
open PySem PySem.Spec PyProof.Rows L2

/-! ### set(xs), xs a list of ints -/
/-- the empty set as it is made -/
abbrev nset (w : World) : Obj := { cls := .type "set", dict := none, data := .set #[] 0 (.fresh 0 0 (!w.params.followText "set-order")) }
abbrev hp1 (w : World) (s : Shared) : Heap := s.heap.push (nset w)
abbrev sh1 (w : World) (s : Shared) : Shared := { s with heap := hp1 w s }
theorem hp1_at {w : World} {s : Shared} : (hp1 w s).get? s.heap.objs.size = some (nset w) := Heap.get?_push_size _ rfl
theorem hp1_sz {w : World} {s : Shared} : (hp1 w s).objs.size = s.heap.objs.size + 1 := Heap.size_push ..
theorem int_item {xs : Array Value} {ns : List Int} (hi : IntsAre xs.toList ns) (hn : xs.size = ns.length) (i : Nat) (v : Value) (hv : xs[i]? = some v) : ∃ k t, ns[i]? = some k ∧ v = .int k t := by
  have lt : i < ns.length := by
    have := (Array.getElem?_eq_some_iff.mp hv).1
    omega
  obtain ⟨t, e⟩ := PyProof.Rows.IntsAre.int_at hi i v (by rw [Array.getElem?_toList, hv])
  have e2 : ns[i]? = some ns[i] := List.getElem?_eq_getElem lt
  exact ⟨ns[i], t, e2, by rw [e, List.getD_eq_getElem?_getD, e2]; rfl⟩
/-- what the filled set is, where it stands -/
def Filled (w : World) (s : Shared) (ns : List Int) (h2 : Heap) (n : Nat) : Prop := SetR w h2 s.heap.objs.size (fun j => decide (j ∈ ns)) n ∧ n ≤ ns.length ∧ ∀ b o, s.heap.get? b = some o → h2.get? b = some o
section
variable {P : Program} {w : World} {A : Around} {E : Value → Shared → Prop} {s : Shared}
set_option maxHeartbeats 3200000 in
theorem setl_call {l : Addr} {xs : Array Value} (ns : List Int) {Q : Value → Shared → Prop} (hA : A.handled = none) (hL : s.heap.IsList l xs) (hi : IntsAre xs.toList ns) (few : ns.length + 1 < scanBound)
    (kk : ∀ (h2 : Heap) (tk n : Nat), Filled w s ns h2 n → Q (.ref s.heap.objs.size) { s with heap := h2, toks := tk }) : wpAny (model P w) A (call (.type "set") [.ref l]) Q E s := by
  have sz : xs.size = ns.length := by have := IntsAre.length hi; rwa [Array.length_toList] at this
  have ⟨c, tl, m0⟩ := F.called_set.mro
  have m1 := F.called_set.made; have m2 := F.called_set.sub; have m3 := F.called_set.notType; have m4 := F.called_set.canCreate; have m5 := F.typeCall_set_1 (.ref l)
  refine wpAny_call (codeAny_of_tree (show wpAny _ _ (callAny (.type "set") _) _ _ _ from wpAny_pure ⟨Code.quiet_builtin _ (by decide +kernel), codeAny_builtin F.entry_type_call ?_⟩))
  rw [Around.under_plain (weight_type_call_type "set" [.ref l] []) rfl]
  repeat any_goals first | assumption | wp_step
  -- the new set
  refine codeAny_mono (code_set_led1 (.ref l) (E := E) (Q₁ := fun v s1 => v = .ref s.heap.objs.size ∧ s1 = sh1 w s) ⟨rfl, rfl⟩) fun r s1 hr => ?_
  rcases r with e | fl
  · exact hr
  cases fl with
  | next => exact hr.elim
  | brk => exact hr.elim
  | cont => exact hr.elim
  | ret v =>
    obtain ⟨rfl, rfl⟩ := hr
    have ty : Shared.TypeIs (sh1 w s) (.ref s.heap.objs.size) "set" := ⟨_, hp1_at, rfl⟩
    have n1 := F.called_set.init.lookup; have n2 := F.called_set.init.bind (.ref s.heap.objs.size)
    repeat any_goals first | assumption | wp_step
    -- its __init__
    refine codeAny_mono (codeAny_call_builtin (R := wants (fun v s2 => v = .none ∧ ∃ h2 tk n, s2 = { s with heap := h2, toks := tk } ∧ Filled w s ns h2 n) E) F.called_set.init.plain F.entry_set_init (check_set_init_1 ty ?_)) fun r s2 hr => ?_
    · obtain ⟨⟨oc, od, ot, os⟩, g1, g2, g3, g4⟩ := hL
      simp only at g2 g4
      subst g2 g4
      have at1 : (hp1 w s).get? l = some { cls := .type "list", dict := od, data := .seq xs g3, slots := os } := Heap.get?_push_of_some _ g1
      have L1 : (hp1 w s).IsList l xs := ⟨_, at1, rfl, g3, rfl⟩
      have u1 := F.sub_list_set; have u2 := F.sub_list_frozenset; have u3 : (Value.type "list" == Value.type "dict") = false := by decide
      unfold Builtin.«set.__init__» noKeywords Builtin.Frozenset.updateFrom
      generalize hq : pyIter = PI
      wp_walk
      subst hq
      refine wpAny_pyIter_list L1 (wpAny_bind (wpAny_runValue ?_))
      have lt := Heap.lt_size g1
      have hA3 : A.in1.in1.in1.handled = none := by simp [hA]
      have d1 : l ≠ (hp1 w s).objs.size := hp1_sz ▸ Nat.ne_of_lt (Nat.lt_succ_of_lt lt)
      have d2 : s.heap.objs.size ∉ [(hp1 w s).objs.size, l] := by
        simp only [hp1_sz, List.mem_cons, List.not_mem_nil, or_false, not_or]
        exact ⟨Nat.ne_of_lt (Nat.lt_succ_self _), Nat.ne_of_gt lt⟩
      refine set_update_ints ((Walks.list hA3 _ l d1 xs).toS) s.heap.objs.size d2 ns sz few (int_item hi sz) (xs.size - 0) 0 _ (by omega) (Nat.zero_le _) ⟨⟨_, Heap.get?_push_size _ rfl, rfl, rfl⟩, (L1.push _)⟩ ?first ?rest
      case first => exact ⟨0, Nat.le_refl 0, setR_new_at (Heap.get?_push_of_some _ hp1_at)⟩
      case rest =>
        rintro ⟨h2, x1, x2, tk, x3⟩ n hm hn hS
        obtain rfl : x1 = s.gens := hm.gens
        obtain rfl : x2 = s.drawn := hm.drawn
        obtain rfl : x3 = s.os := hm.os
        refine wpAny_pure (show wpAny _ _ (ret Value.none) _ _ _ from wpAny_pure ⟨rfl, h2, tk, n, rfl, hS, sz ▸ hn, fun b o e => ?_⟩)
        refine hm.heap b o ?_ (Heap.get?_push_of_some _ (Heap.get?_push_of_some _ e))
        have lb := Heap.lt_size e
        simp only [hp1_sz, List.mem_cons, List.not_mem_nil, or_false, not_or]
        exact ⟨Nat.ne_of_lt lb, Nat.ne_of_lt (Nat.lt_succ_of_lt lb)⟩
    · rcases r with e | fl
      · exact hr
      cases fl with
      | next => exact hr.elim
      | brk => exact hr.elim
      | cont => exact hr.elim
      | ret v =>
        obtain ⟨rfl, h2, tk, n, rfl, hF⟩ := hr
        repeat any_goals first | assumption | wp_step
        exact kk _ _ _ hF
end
end LW
namespace LW
open PySem PySem.Spec PyProof.Rows L2

def insU (x : Int) : List Int → List Int
  | [] => [x]
  | y :: ys => if x < y then x :: y :: ys else if x = y then y :: ys else y :: insU x ys
def sortU : List Int → List Int
  | [] => []
  | x :: xs => insU x (sortU xs)
theorem mem_insU {x k : Int} : ∀ {ys : List Int}, k ∈ insU x ys ↔ k = x ∨ k ∈ ys
  | [] => by simp [insU]
  | y :: ys => by
    unfold insU
    split
    · simp
    · split
      · rename_i e; subst e; simp
      · simp [mem_insU (ys := ys)]
        constructor
        · rintro (h | h | h)
          · exact .inr (.inl h)
          · exact .inl h
          · exact .inr (.inr h)
        · rintro (h | h | h)
          · exact .inr (.inl h)
          · exact .inl h
          · exact .inr (.inr h)
theorem mem_sortU {k : Int} : ∀ {xs : List Int}, k ∈ sortU xs ↔ k ∈ xs
  | [] => by simp [sortU]
  | x :: xs => by rw [sortU, mem_insU, mem_sortU, List.mem_cons]
theorem insU_sorted (x : Int) : ∀ {ys : List Int}, ys.Pairwise (· < ·) → (insU x ys).Pairwise (· < ·)
  | [], _ => by simp [insU]
  | y :: ys, h => by
    unfold insU
    obtain ⟨h1, h2⟩ := List.pairwise_cons.mp h
    split
    · rename_i hx
      refine List.pairwise_cons.mpr ⟨fun z hz => ?_, h⟩
      rcases List.mem_cons.mp hz with rfl | hz
      · exact hx
      · have := h1 z hz; omega
    · split
      · exact h
      · refine List.pairwise_cons.mpr ⟨fun z hz => ?_, insU_sorted x h2⟩
        rcases mem_insU.mp hz with rfl | hz
        · omega
        · exact h1 z hz
theorem sortU_sorted : ∀ xs : List Int, (sortU xs).Pairwise (· < ·)
  | [] => .nil
  | x :: xs => insU_sorted x (sortU_sorted xs)
/-- two strictly rising lists of the same members are one -/
theorem rise_unique : ∀ {xs ys : List Int}, (∀ k, k ∈ xs ↔ k ∈ ys) → xs.Pairwise (· < ·) → ys.Pairwise (· < ·) → xs = ys
  | [], [], _, _, _ => rfl
  | [], y :: ys, p, _, _ => by have := (p y).mpr List.mem_cons_self; cases this
  | x :: xs, [], p, _, _ => by have := (p x).mp List.mem_cons_self; cases this
  | x :: xs, y :: ys, p, h1, h2 => by
    obtain ⟨a1, a2⟩ := List.pairwise_cons.mp h1
    obtain ⟨b1, b2⟩ := List.pairwise_cons.mp h2
    have e : x = y := by
      have m1 : x ∈ y :: ys := (p x).mp List.mem_cons_self
      have m2 : y ∈ x :: xs := (p y).mpr List.mem_cons_self
      rcases List.mem_cons.mp m1 with z | z
      · exact z
      · rcases List.mem_cons.mp m2 with w | w
        · exact w.symm
        · have := b1 x z
          have := a1 y w
          omega
    subst e
    rw [rise_unique (fun k => ?_) a2 b2]
    constructor
    · intro hk
      rcases List.mem_cons.mp ((p k).mp (List.mem_cons_of_mem _ hk)) with rfl | h
      · have := a1 k hk; omega
      · exact h
    · intro hk
      rcases List.mem_cons.mp ((p k).mpr (List.mem_cons_of_mem _ hk)) with rfl | h
      · have := b1 k hk; omega
      · exact h
theorem nodup_le {α : Type} [BEq α] [LawfulBEq α] : ∀ {xs ys : List α}, xs.Nodup → (∀ k ∈ xs, k ∈ ys) → xs.length ≤ ys.length
  | [], _, _, _ => Nat.zero_le _
  | x :: xs, ys, n, h => by
    obtain ⟨n1, n2⟩ := List.nodup_cons.mp n
    have hx : x ∈ ys := h x List.mem_cons_self
    have := nodup_le (xs := xs) (ys := ys.erase x) n2 fun k hk => (List.mem_erase_of_ne fun z => n1 (by rw [← z]; exact hk)).mpr (h k (List.mem_cons_of_mem _ hk))
    rw [List.length_erase_of_mem hx] at this
    have : 0 < ys.length := List.length_pos_of_mem hx
    simp only [List.length_cons]
    omega
theorem rise_nodup {xs : List Int} (h : xs.Pairwise (· < ·)) : xs.Nodup := List.Pairwise.imp (fun {a b} h => by omega) h
/-- set(xs) -/
def rSetL (K : PySem.W.Frag) (w : World) : List V → Hp → VK → Prop := fun xs H Q => ∃ (l : Addr) (ns : List Int), xs = [V.ref l] ∧ SqL K H l (ns.map V.int) ∧ ns.length + 1 < scanBound ∧
  ∀ a, H a = none → Q (.ref a) (upd H a (SetO w a (fun j => decide (j ∈ ns)) (sortU ns).length))
section
variable {X : Cx}
theorem cr_setL (hc : X.calm = true) : CallR X (.type "set") (rSetL X.K X.w) := by
  intro pins s σ H xs us Q I r h
  obtain ⟨l, ns, rfl, hl, hb, q⟩ := h
  rw [Vals.ref1 r]
  obtain ⟨its, rv, pl, hz⟩ := I.list hl
  have hn : H s.heap.objs.size = none := I.hok.fresh (Nat.le_refl _)
  refine setl_call (P := X.prog) (w := X.w) ns (I.ok.hd hc) pl.isList (by simpa using ints_of_vals rv) hb fun h' tk c ⟨R, hc2, kp⟩ => ?_
  have hcard : c = (sortU ns).length := by
    obtain ⟨o, es, ep, t, _, _, _, _, nd, mem, _, _, hn2, _⟩ := R
    have e1 : (es.toList.map keyOf).length = c := by rw [List.length_map, Array.length_toList]; exact hn2
    rw [← e1]
    refine Nat.le_antisymm (nodup_le nd fun k hk => ?_) (nodup_le (rise_nodup (sortU_sorted ns)) fun k hk => ?_)
    · exact mem_sortU.mpr (of_decide_eq_true ((mem k).mpr hk))
    · exact (mem k).mp (decide_eq_true (mem_sortU.mp hk))
  subst hcard
  exact ⟨.ref s.heap.objs.size, upd H s.heap.objs.size (SetO X.w s.heap.objs.size (fun j => decide (j ∈ ns)) (sortU ns).length), I.laid (t' := tk) kp (Nat.le_refl _) (setO_new R), rfl, q _ hn⟩
end
/-- sorted(set(xs)), few members -/
def gSortSet (ρ : REnv) (l : L) : Option L := ((l.lview ρ).bind asInts).bind fun ns => if ns.length ≤ 4000 && decide ((sortU ns).length < 64) then some (.own (.lst ((sortU ns).map T.int))) else none
section
variable {X : Cx} {fa : Nat → Addr} {e : Expr} {d : Den} {p1 p2 pos pos2 : Pos}
theorem SE.sortSet (hc : X.calm = true) (hg : Gl X "sorted") (hm : X.mg "sorted" = none) (hg2 : Gl X "set") (hm2 : X.mg "set" = none) (h : SE X fa e d)
    (he : starEach [e] X.env = (false, eval e X.env) :: starEach [] X.env) (he2 : starEach [.Call (.Name "set" p2) [e] [] pos2] X.env = (false, eval (.Call (.Name "set" p2) [e] [] pos2) X.env) :: starEach [] X.env) :
    SE X fa (.Call (.Name "sorted" p1) [.Call (.Name "set" p2) [e] [] pos2] [] pos) (den1 gSortSet d) := by
  obtain ⟨t, pt, rt⟩ := h
  refine ⟨_, pe_callB (cr_sortedSet hc) hg hm PyProof.Rows.boot_sorted (pa_cons (pe_callTy (cr_setL hc) hg2 hm2 PyProof.Rows.boot_set (pa_cons pt pa_nil he) (by decide) (by decide) he rfl) pa_nil he2) (by decide) (by decide) he2 rfl, fun σ G H ρ l ρ' Q E hd k => ?_⟩
  cases q : d ρ with
  | none => simp [den1, q] at hd
  | some z =>
    cases q1 : (z.1.lview z.2).bind asInts with
    | none => simp [den1, q, gSortSet, q1] at hd
    | some ns =>
      by_cases hz : (ns.length ≤ 4000 && decide ((sortU ns).length < 64)) = true
      · simp [den1, q, gSortSet, q1, hz] at hd
        obtain ⟨_, rfl, rfl⟩ := hd
        simp only [Bool.and_eq_true, decide_eq_true_eq] at hz
        refine rt σ G H ρ z.1 z.2 _ E q fun v1 G1 H1 P1 => ?_
        obtain ⟨a, rfl, hs⟩ := ints_at P1.ops1 q1
        refine ⟨a, ns, rfl, hs, by unfold scanBound; omega, fun b hb => ?_⟩
        have A1 : At X.K fa (Cl σ ρ) G H G1 (upd H1 b (SetO X.w b (fun j => decide (j ∈ ns)) (sortU ns).length)) σ z.2 := At.alloc ⟨P1.env, P1.aft⟩ hb
        refine ⟨b, _, _, rfl, upd_same, hz.2, fun ns2 p h1 h2 h3 hp => ?_⟩
        have e2 : ns2 = sortU ns := rise_unique (fun j => by rw [h2, mem_sortU]; simp) h1 (sortU_sorted ns)
        subst e2
        exact k _ _ _ (A1.lstR hp (RepAll.of_ints _)).post
      · simp [den1, q, gSortSet, q1, hz] at hd
        simp at hz
        omega
end
end LW
namespace LW
open PySem PySem.Spec PyProof.Rows L2

/-! ### facts of names, by one Bool each -/
def locO : Option NameKind → Bool
  | some .local => true
  | _ => false
def celO : Option NameKind → Bool
  | some .cell => true
  | _ => false
def visO : Option NameKind → Bool
  | some .local => true
  | some .cell => true
  | some .free => true
  | _ => false
theorem vis_of {sc : Scope} {x : Str} (h : visO (sc.names.lookup x) = true) : Vis sc x := by
  unfold Vis
  cases q : sc.names.lookup x with
  | none => rw [q] at h; cases h
  | some k =>
    rw [q] at h
    cases k <;> first | exact .inl rfl | exact .inr (.inl rfl) | exact .inr (.inr rfl) | cases h
theorem loc_of {sc : Scope} {x : Str} (h : (locO (sc.names.lookup x) || celO (sc.names.lookup x)) = true) : Loc sc x := by
  unfold L2.Loc
  cases q : sc.names.lookup x with
  | none => rw [q] at h; cases h
  | some k =>
    rw [q] at h
    cases k <;> first | exact .inl rfl | exact .inr rfl | cases h
section
variable {X : Cx} {fa : Nat → Addr} {e e2 tg : Expr} {pos p : Pos} {d d1 d2 : Den}
theorem SE.len (hg : Gl X "len") (hm : X.mg "len" = none) (h : SE X fa e d) (he : starEach (e :: []) X.env = (false, eval e X.env) :: starEach [] X.env) : SE X fa (.Call (.Name "len" p) [e] [] pos) (den1 gLen d) :=
  SE.bi1 call_len hg hm PySem.boot_len h unt_len (by decide) (by decide) he
theorem SE.sum (hc : X.calm = true) (hg : Gl X "sum") (hm : X.mg "sum" = none) (h : SE X fa e d) (he : starEach (e :: []) X.env = (false, eval e X.env) :: starEach [] X.env) : SE X fa (.Call (.Name "sum" p) [e] [] pos) (den1 gSum d) :=
  SE.bi1 (cr_sum hc) hg hm PyProof.Rows.boot_sum h unt_sum (by decide) (by decide) he
theorem SE.all (hc : X.calm = true) (hg : Gl X "all") (hm : X.mg "all" = none) (h : SE X fa e d) (he : starEach (e :: []) X.env = (false, eval e X.env) :: starEach [] X.env) : SE X fa (.Call (.Name "all" p) [e] [] pos) (den1 gAll d) :=
  SE.bi1 (cr_all hc) hg hm PyProof.Rows.boot_all h unt_all (by decide) (by decide) he
theorem SE.any (hc : X.calm = true) (hg : Gl X "any") (hm : X.mg "any" = none) (h : SE X fa e d) (he : starEach (e :: []) X.env = (false, eval e X.env) :: starEach [] X.env) : SE X fa (.Call (.Name "any" p) [e] [] pos) (den1 gAny d) :=
  SE.bi1 (cr_any hc) hg hm PyProof.Rows.boot_any h unt_any (by decide) (by decide) he
theorem SE.maxL (hc : X.calm = true) (hg : Gl X "max") (hm : X.mg "max" = none) (h : SE X fa e d) (he : starEach (e :: []) X.env = (false, eval e X.env) :: starEach [] X.env) : SE X fa (.Call (.Name "max" p) [e] [] pos) (den1 gMaxL d) :=
  SE.bi1 (cr_max hc) hg hm PyProof.Rows.boot_max h unt_maxL (by decide) (by decide) he
theorem SE.minL (hc : X.calm = true) (hg : Gl X "min") (hm : X.mg "min" = none) (h : SE X fa e d) (he : starEach (e :: []) X.env = (false, eval e X.env) :: starEach [] X.env) : SE X fa (.Call (.Name "min" p) [e] [] pos) (den1 gMinL d) :=
  SE.bi1 (cr_min hc) hg hm PyProof.Rows.boot_min h unt_minL (by decide) (by decide) he
theorem SE.abs (hg : Gl X "abs") (hm : X.mg "abs" = none) (h : SE X fa e d) (he : starEach (e :: []) X.env = (false, eval e X.env) :: starEach [] X.env) : SE X fa (.Call (.Name "abs" p) [e] [] pos) (den1 gAbs d) :=
  SE.bi1 call_abs hg hm PyProof.Rows.boot_abs h unt_abs (by decide) (by decide) he
theorem SE.int1 (hg : Gl X "int") (hm : X.mg "int" = none) (h : SE X fa e d) (he : starEach (e :: []) X.env = (false, eval e X.env) :: starEach [] X.env) : SE X fa (.Call (.Name "int" p) [e] [] pos) (den1 gInt d) :=
  SE.ty1 call_int1 hg hm PyProof.Rows.boot_int h unt_int (by decide) (by decide) he
theorem SE.list1 (hg : Gl X "list") (hm : X.mg "list" = none) (h : SE X fa e d) (he : starEach (e :: []) X.env = (false, eval e X.env) :: starEach [] X.env) : SE X fa (.Call (.Name "list" p) [e] [] pos) (den1 gList d) :=
  SE.ty1 call_list_of hg hm PyProof.Rows.boot_list h unt_list (by decide) (by decide) he
theorem SE.tuple1 (hg : Gl X "tuple") (hm : X.mg "tuple" = none) (h : SE X fa e d) (he : starEach (e :: []) X.env = (false, eval e X.env) :: starEach [] X.env) : SE X fa (.Call (.Name "tuple" p) [e] [] pos) (den1 gTuple d) :=
  SE.ty1 call_tuple_of hg hm PyProof.Rows.boot_tuple h unt_tuple (by decide) (by decide) he
/-- sorted: ints, pairs -/
def gSort (ρ : REnv) (l : L) : Option L := match gSortI ρ l with
  | some r => some r
  | none => gSortP ρ l
theorem unt_sort {K : PySem.W.Frag} : UnT K fa (fun x H Q => rSortedI K [x] H Q ∨ rSortedPT K [x] H Q) gSort := by
  intro C0 G0 H0 G H σ ρ v1 l1 l Q O e k
  unfold gSort at e
  split at e
  · rename_i r h
    cases e
    exact .inl (unt_sortI C0 G0 H0 G H σ ρ v1 l1 _ Q O h k)
  · exact .inr (unt_sortP C0 G0 H0 G H σ ρ v1 l1 l Q O e k)
theorem SE.sorted (hg : Gl X "sorted") (hm : X.mg "sorted" = none) (h : SE X fa e d) (he : starEach (e :: []) X.env = (false, eval e X.env) :: starEach [] X.env) : SE X fa (.Call (.Name "sorted" p) [e] [] pos) (den1 gSort d) :=
  SE.bi1 (r := fun xs H Q => rSortedI X.K xs H Q ∨ rSortedPT X.K xs H Q) (cr_sortedI.or cr_sortedPT) hg hm PyProof.Rows.boot_sorted h unt_sort (by decide) (by decide) he
theorem SE.max2 (hc : X.calm = true) (hg : Gl X "max") (hm : X.mg "max" = none) (h : SE X fa e d1) (h2 : SE X fa e2 d2) (he : starEach (e :: [e2]) X.env = (false, eval e X.env) :: starEach [e2] X.env) (he2 : starEach (e2 :: []) X.env = (false, eval e2 X.env) :: starEach [] X.env) (hpl : (backTo pos (starEach [e2] X.env)).any (·.1) = false) : SE X fa (.Call (.Name "max" p) [e, e2] [] pos) (den2 gMax2 d1 d2) :=
  SE.bi2 (call_max2 hc) hg hm PyProof.Rows.boot_max h h2 opt_max2 (by decide) (by decide) he he2 hpl
theorem SE.min2 (hc : X.calm = true) (hg : Gl X "min") (hm : X.mg "min" = none) (h : SE X fa e d1) (h2 : SE X fa e2 d2) (he : starEach (e :: [e2]) X.env = (false, eval e X.env) :: starEach [e2] X.env) (he2 : starEach (e2 :: []) X.env = (false, eval e2 X.env) :: starEach [] X.env) (hpl : (backTo pos (starEach [e2] X.env)).any (·.1) = false) : SE X fa (.Call (.Name "min" p) [e, e2] [] pos) (den2 gMin2 d1 d2) :=
  SE.bi2 (call_min2 hc) hg hm PyProof.Rows.boot_min h h2 opt_min2 (by decide) (by decide) he he2 hpl
end
/-! ### a def that nobody calls with what it does not take -/
section
variable {P : Program} {w : World} {K : PySem.W.Frag} {mg : Str → Option Value} {base : Heap} {fa : Nat → Addr} {k : Nat} {x qual : Str} {st : Stmt} {f : Addr} {fd : FuncData} {N ps : List Str}
theorem fn_none (F : Fun K x qual st f fd) (S : FnScope N ps (defScope st)) (hmg : mg x = some (.ref f)) (hb : Binds K fd ps []) : Fn P w K mg base fa (k + 1) x ps.length (pureF fun _ => none) := by
  refine ⟨f, fd, ps, F.ok S (fun vs H Q E q => q.1) (fun cdv A outer s H vs Q E hr q => ?_), hmg, F.kp, hb⟩
  obtain ⟨_, G, ls, r, ls', _, e, _⟩ := q
  unfold pureF at e
  cases q2 : allT ls <;> simp [q2] at e
end
end LW
namespace LW
open PySem PySem.Spec PyProof.Rows L2

theorem room1 {k : Nat} {A : Around} (r : Room k A) : A.units + 1 < cLine := by have := r.un; omega
theorem room64 {k : Nat} {A : Around} (r : Room k A) : A.units + 64 < cLine := by have := r.un; omega
theorem room65 {k : Nat} {A : Around} (r : Room k A) : A.units + 65 < cLine := by have := r.un; omega
section
variable {X : Cx} {fa : Nat → Addr} {e e2 tg : Expr} {pos p : Pos} {d d1 d2 de : Den}
theorem SE.v (i : Nat) {x : Str} (hN : X.N[i]? = some x) (hv : visO (X.env.scope.names.lookup x) = true) (hd : (x == ("__debug__" : Str)) = false) (hcd : (x == ("__classdict__" : Str)) = false) : SE X fa (.Name x pos) (gVar i) := SE.var hN (vis_of hv) hd hcd
theorem lf_of {x : Str} (h : (X.fn x || locO (X.env.scope.names.lookup x)) = true) : X.fn x = true ∨ X.env.scope.names.lookup x = some .local := by
  cases q : X.fn x with
  | true => exact .inl rfl
  | false =>
    rw [q] at h
    right
    cases q2 : X.env.scope.names.lookup x with
    | none => rw [q2] at h; cases h
    | some k =>
      rw [q2] at h
      cases k <;> first | rfl | cases h
theorem SG.n {i : Nat} {x : Str} (hN : X.N.Nodup) (hi : X.N[i]? = some x) (hx : (locO (X.env.scope.names.lookup x) || celO (X.env.scope.names.lookup x)) = true) (hf : (X.fn x || locO (X.env.scope.names.lookup x)) = true) : SG X fa (.Name x pos) [i] (gNameT i) := SG.name hN hi (loc_of hx) (lf_of hf)
theorem SS.st {i : Nat} {x : Str} {pos' : Pos} (hN : X.N.Nodup) (hi : X.N[i]? = some x) (hx : (locO (X.env.scope.names.lookup x) || celO (X.env.scope.names.lookup x)) = true) (h : SE X fa e de) (hs : swapsWith e (some (.Name x pos')) pos.line X.env = pure false) (hf : (X.fn x || locO (X.env.scope.names.lookup x)) = true) :
    SS X fa (.Assign [.Name x pos'] e pos) [i] (dSet i de) := SS.set hN hi (loc_of hx) h hs (lf_of hf)
/-- a value that is a bool, as a test -/
theorem SE.blT (h : SE X fa e d) (he : ∀ whole, isTrue e X.env whole = (do let v ← whole; standAt e.pos; holding [v] (truthy v))) : ST X fa e (dTru d) := SE.truth h he
theorem ST.cmpB {op : CmpOp} {g : REnv → L → L → Option Bool} {a b : Expr} (h1 : SE X fa a d1) (h2 : SE X fa b d2) (hc : CmpR X fa op g) (hm : behindInMarks op b = false) : ST X fa (.Compare a [op] [b] pos) (dBl (dBor (den2 (gB g) d1 d2))) := by
  obtain ⟨r, p, q⟩ := hc.ex
  obtain ⟨ta, pa, ra⟩ := h1
  obtain ⟨tb, pb, rb⟩ := h2
  exact ⟨_, pt_cmpR p pa pb hm, test_read (bor_read (two_read ra rb q.opt))⟩
theorem SE.lc {elt tg iter : Expr} {ifs : List Expr} {scope : Scope} {own : List (Str × Nat)} {vs : List Nat} {pos : Pos} {src : DenI} {as : List Nat} {g : DenG} {dt : DenT} {de : Den} (hvs : own.map (·.2) = vs) (hc : X.calm = true) (hN : X.N.Nodup) (hi : SI X fa tg iter src)
    (ok : BlkOk X.N X.env.scope scope own) (has : ∀ i ∈ as, i ∈ vs)
    (hg : ∀ (s : Shared) (H : Hp) (C : Addr) (cl : List (Str × Addr)) (fp : List Addr), SG (X.blk s H scope (compEnvC scope cl C X.env) fp) fa tg as g)
    (ht : ∀ (s : Shared) (H : Hp) (C : Addr) (cl : List (Str × Addr)) (fp : List Addr), STs (X.blk s H scope (compEnvC scope cl C X.env) fp) fa ifs dt)
    (he : ∀ (s : Shared) (H : Hp) (C : Addr) (cl : List (Str × Addr)) (fp : List Addr), SE (X.blk s H scope (compEnvC scope cl C X.env) fp) fa elt de) (hs : ∀ x, foldedSetIterable iter X.env x = pure x) :
    SE X fa (.ListComp elt [⟨tg, iter, ifs, 0⟩] scope pos) (compD src vs g dt de) := by
  subst hvs
  exact SE.of (SE.comp hc hN hi ok has hg ht he hs).1
theorem SS.lc {i : Nat} {y : Str} {py : Pos} {elt tg iter : Expr} {ifs : List Expr} {scope : Scope} {own : List (Str × Nat)} {vs : List Nat} {pos spos : Pos} {src : DenI} {cs : List Nat} {g : DenG} {dt : DenT} {dd : Den} (hvs : own.map (·.2) = vs) (hc : X.calm = true) (hN : X.N.Nodup) (hy : X.N[i]? = some y) (hyl : X.env.scope.names.lookup y = some .local)
    (hsw : swapsWith (.ListComp elt [⟨tg, iter, ifs, 0⟩] scope pos) (some (.Name y py)) spos.line X.env = pure true) (hi : SI X fa tg iter src)
    (ok : BlkOk X.N X.env.scope scope own) (has : ∀ i ∈ cs, i ∈ vs)
    (hg : ∀ (s : Shared) (H : Hp) (C : Addr) (cl : List (Str × Addr)) (fp : List Addr), SG (X.blk s H scope (compEnvC scope cl C X.env) fp) fa tg cs g)
    (ht : ∀ (s : Shared) (H : Hp) (C : Addr) (cl : List (Str × Addr)) (fp : List Addr), STs (X.blk s H scope (compEnvC scope cl C X.env) fp) fa ifs dt)
    (he : ∀ (s : Shared) (H : Hp) (C : Addr) (cl : List (Str × Addr)) (fp : List Addr), SE (X.blk s H scope (compEnvC scope cl C X.env) fp) fa elt dd) (hs : ∀ x, foldedSetIterable iter X.env x = pure x) :
    SS X fa (.Assign [.Name y py] (.ListComp elt [⟨tg, iter, ifs, 0⟩] scope pos) spos) [i] (dSet i (compD src vs g dt dd)) := by
  subst hvs
  exact SS.setC hc hN hy hyl hsw hi ok has hg ht he hs
end
/-- the law's own def: the function object stays in sight -/
structure FnL (P : Program) (w : World) (K : PySem.W.Frag) (mg : Str → Option Value) (base : Heap) (fa : Nat → Addr) (k : Nat) (f : Addr) (fd : FuncData) (ps : List Str) (m : DenF) : Prop where
  ok : FnOk P w K mg base CX0 k f fd ps (spM K fa ps.length m)
theorem fn_pureL {P : Program} {w : World} {K : PySem.W.Frag} {mg : Str → Option Value} {base : Heap} {fa : Nat → Addr} {k : Nat} {x qual : Str} {st : Stmt} {f : Addr} {fd : FuncData} {N ps : List Str} {as : List Nat} {d : DenS} (F : Fun K x qual st f fd) (S : FnScope N ps (defScope st))
    (h : ∀ (cdv : Value) (A : Around) (outer : List Env) (s : Shared) (H : Hp) (E : XK), Room k (A.deeper (envOfC qual (defScope st) s.heap.objs.size f cdv)) →
      SSs (cxOf CX0 P w K mg base N qual (defScope st) f cdv A outer s H E).nox fa (defBody st) as d) : FnL P w K mg base fa (k + 1) f fd ps (pureF (bodyP ps.length N.length d)) :=
  ⟨fn_pureK F S h⟩
end LW
namespace LW
open PySem PySem.Spec PyProof.Rows L2

/-! ### meanings, evaluated -/
theorem dSeq_nx {d d' : DenS} {ρ ρ' : REnv} (h : d ρ = some (.nx, ρ')) : dSeq d d' ρ = d' ρ' := by simp [dSeq, h]
theorem dSeq_ret {d d' : DenS} {ρ ρ' : REnv} {l : L} (h : d ρ = some (.ret l, ρ')) : dSeq d d' ρ = some (.ret l, ρ') := by simp [dSeq, h]
theorem dRet_eq {d : Den} {ρ ρ' : REnv} {l : L} (h : d ρ = some (l, ρ')) : dRet d ρ = some (.ret l, ρ') := by simp [dRet, h]
theorem dSet_t {i : Nat} {d : Den} {ρ ρ' : REnv} {x : T} (h : d ρ = some (.t x, ρ')) (hi : i < ρ'.length) : dSet i d ρ = some (.nx, ρ'.set i (.t x)) := by simp [dSet, h, stoE, hi]
theorem dSet_o {i : Nat} {d : Den} {ρ ρ' : REnv} {c : OC} (h : d ρ = some (.own c, ρ')) (hi : i < ρ'.length) : dSet i d ρ = some (.nx, ρ'.set i (.own c)) := by simp [dSet, h, stoE, hi]
theorem dIfS_t {c : DenT} {d d' : DenS} {ρ ρ' : REnv} (h : c ρ = some (true, ρ')) : dIfS c d d' ρ = d ρ' := by simp [dIfS, h]
theorem dIfS_f {c : DenT} {d d' : DenS} {ρ ρ' : REnv} (h : c ρ = some (false, ρ')) : dIfS c d d' ρ = d' ρ' := by simp [dIfS, h]
theorem compL_fm {α : Type} {vs : List Nat} {g : DenG} {dt : DenT} {de : Den} {ρ : REnv} (t : α → T) (b : α → Bool) (y : α → T) : ∀ as : List α,
    (∀ a ∈ as, ∃ ρa ρb, g (t a) ρ = some ρa ∧ dt ρa = some (b a, ρb) ∧ (b a = true → ∃ l ρc, de ρb = some (l, ρc) ∧ l.tree = some (y a) ∧ wipeE ρc vs = ρ) ∧ (b a = false → wipeE ρb vs = ρ)) →
    compL vs g dt de (as.map t) ρ = some ((as.filter b).map y, ρ)
  | [], _ => rfl
  | a :: as, h => by
    obtain ⟨ρa, ρb, h1, h2, h3, h4⟩ := h a List.mem_cons_self
    have ih := compL_fm t b y as fun x hx => h x (List.mem_cons_of_mem _ hx)
    rw [List.map_cons]
    cases q : b a with
    | true =>
      obtain ⟨l, ρc, h5, h6, h7⟩ := h3 q
      rw [q] at h2
      simp [compL, h1, h2, h5, h6, h7, ih, q]
    | false =>
      have h7 := h4 q
      rw [q] at h2
      simp [compL, h1, h2, h7, ih, q]
theorem compL_m {α : Type} {vs : List Nat} {g : DenG} {de : Den} {ρ : REnv} (t : α → T) (y : α → T) (as : List α)
    (h : ∀ a ∈ as, ∃ ρa, g (t a) ρ = some ρa ∧ ∃ l ρc, de ρa = some (l, ρc) ∧ l.tree = some (y a) ∧ wipeE ρc vs = ρ) :
    compL vs g dYes de (as.map t) ρ = some (as.map y, ρ) := by
  have := compL_fm (vs := vs) (g := g) (dt := dYes) (de := de) (ρ := ρ) t (fun _ => true) y as fun a ha => by
    obtain ⟨ρa, h1, h2⟩ := h a ha
    exact ⟨ρa, ρa, h1, rfl, fun _ => h2, fun z => by cases z⟩
  rwa [List.filter_eq_self.mpr fun _ _ => rfl] at this
theorem compD_eq {src : DenI} {vs : List Nat} {g : DenG} {dt : DenT} {de : Den} {ρ ρ1 ρ2 : REnv} {xs ys : List T} {ho : Option Nat} (hs : src ρ = some (xs, ho, ρ1)) (hl : compL vs g dt de xs (wipeE (hideO ho ρ1) vs) = some (ys, ρ2)) (hz : ys.length ≤ line) :
    compD src vs g dt de ρ = some (.own (.lst ys), restE ρ1 ρ2 (ho.toList ++ vs)) := by simp [compD, hs, hl, hz]
theorem forL_inv {α β : Type} {g : DenG} {db : DenS} {t : α → T} (Inv : β → REnv → Prop) (f : β → α → β) : ∀ (as : List α), (∀ a ∈ as, ∀ b ρ, Inv b ρ → ∃ ρa ρ', g (t a) ρ = some ρa ∧ db ρa = some (.nx, ρ') ∧ Inv (f b a) ρ') →
    ∀ b ρ, Inv b ρ → ∃ ρ', forL g db (as.map t) ρ = some (.nx, ρ') ∧ Inv (as.foldl f b) ρ'
  | [], _, b, ρ, hI => ⟨ρ, rfl, hI⟩
  | a :: as, h, b, ρ, hI => by
    obtain ⟨ρa, ρ', h1, h2, h3⟩ := h a List.mem_cons_self b ρ hI
    obtain ⟨ρ2, h4, h5⟩ := forL_inv Inv f as (fun x hx => h x (List.mem_cons_of_mem _ hx)) (f b a) ρ' h3
    exact ⟨ρ2, by simp [forL, h1, h2, h4], h5⟩
/-- a loop that returns at the first hit -/
theorem forL_find {α : Type} {g : DenG} {db : DenS} {t : α → T} (Inv : REnv → Prop) (p : α → Bool) (r : α → L) : ∀ (as : List α), (∀ a ∈ as, ∀ ρ, Inv ρ → ∃ ρa ρ', g (t a) ρ = some ρa ∧ ((p a = true ∧ db ρa = some (.ret (r a), ρ')) ∨ (p a = false ∧ db ρa = some (.nx, ρ'))) ∧ Inv ρ') →
    ∀ ρ, Inv ρ → ∃ ρ', Inv ρ' ∧ forL g db (as.map t) ρ = some ((match as.find? p with
      | some a => .ret (r a)
      | none => .nx), ρ')
  | [], _, ρ, hI => ⟨ρ, hI, rfl⟩
  | a :: as, h, ρ, hI => by
    obtain ⟨ρa, ρ', h1, h2, h3⟩ := h a List.mem_cons_self ρ hI
    rcases h2 with ⟨hp, h2⟩ | ⟨hp, h2⟩
    · exact ⟨ρ', h3, by simp [forL, h1, h2, List.find?_cons, hp]⟩
    · obtain ⟨ρ2, h5, h4⟩ := forL_find Inv p r as (fun x hx => h x (List.mem_cons_of_mem _ hx)) ρ' h3
      exact ⟨ρ2, h5, by simp [forL, h1, h2, h4, List.find?_cons, hp]⟩
theorem whileL_steps {c : DenT} {db : DenS} {Pz : REnv → Prop} (Inv : Nat → REnv → Prop) (n : Nat) (h : ∀ i, i < n → ∀ ρ, Inv i ρ → ∃ ρa ρ', c ρ = some (true, ρa) ∧ db ρa = some (.nx, ρ') ∧ Inv (i + 1) ρ')
    (he : ∀ ρ, Inv n ρ → ∃ ρ', c ρ = some (false, ρ') ∧ Pz ρ') : ∀ (m i fuel : Nat), i + m = n → m < fuel → ∀ ρ, Inv i ρ → ∃ ρ', whileL c db fuel ρ = some (.nx, ρ') ∧ Pz ρ'
  | 0, i, fuel, e, hf, ρ, hI => by
    have : i = n := by omega
    subst this
    obtain ⟨ρ', h1, h2⟩ := he ρ hI
    cases fuel with
    | zero => omega
    | succ fuel => exact ⟨ρ', by simp [whileL, h1], h2⟩
  | m + 1, i, fuel, e, hf, ρ, hI => by
    obtain ⟨ρa, ρ', h1, h2, h3⟩ := h i (by omega) ρ hI
    cases fuel with
    | zero => omega
    | succ fuel =>
      obtain ⟨ρ2, h4, h5⟩ := whileL_steps Inv n h he m (i + 1) fuel (by omega) (by omega) ρ' h3
      exact ⟨ρ2, by simp [whileL, h1, h2, h4], h5⟩
theorem asInts_f {α : Type} (f : α → Int) : ∀ as : List α, asInts (as.map fun a => .int (f a)) = some (as.map f)
  | [] => rfl
  | a :: as => by simp [asInts, asInts_f f as]
theorem mulOk_small {i j : Int} (h : -(18446744073709551616) < i) (h2 : i < 18446744073709551616) : mulOk i j = true := by simp [mulOk, h, h2]
theorem mulOk_smallr {i j : Int} (h : -(18446744073709551616) < j) (h2 : j < 18446744073709551616) : mulOk i j = true := by simp [mulOk, h, h2]
theorem atI_pos {α : Type} {xs : List α} {i : Int} {x : α} (h0 : 0 ≤ i) (h : xs[i.toNat]? = some x) : atI xs i = some x := by
  obtain ⟨n, rfl⟩ := Int.eq_ofNat_of_zero_le h0
  exact atI_nat (by simpa using h)
theorem atI_neg {α : Type} {xs : List α} {i : Int} {x : α} (h0 : i < 0) (h1 : 0 ≤ xs.length + i) (h : xs[(xs.length + i).toNat]? = some x) : atI xs i = some x := by
  have e : ixN xs.length i = some (xs.length + i).toNat := by
    unfold ixN
    rw [if_neg (by omega), if_pos (by omega), Int.add_comm]
  rw [atI, e, Option.bind_some, h]
theorem atI_ints {ns : List Int} {i : Int} (h0 : 0 ≤ i) (h1 : i < ns.length) : atI (ns.map T.int) i = some (.int (ns.getD i.toNat 0)) := by
  refine atI_pos h0 ?_
  have : i.toNat < ns.length := by omega
  simp [this]
theorem atI_intsN {ns : List Int} {i : Int} (h0 : i < 0) (h1 : 0 ≤ ns.length + i) : atI (ns.map T.int) i = some (.int (ns.getD (ns.length + i).toNat 0)) := by
  have : (ns.length + i).toNat < ns.length := by omega
  refine atI_neg h0 (by simpa using h1) ?_
  simp [this]
end LW
namespace LW
open PySem
open L2 (atI ixN)

/-! ### lists of ints: equality, shape, slices -/
theorem eqvAll_ii : ∀ a b : List Int, PyData.eqvAll (T.pys (a.map T.int)) (T.pys (b.map T.int)) = decide (a = b)
  | [], [] => rfl
  | [], b :: bs => rfl
  | a :: as, [] => rfl
  | a :: as, b :: bs => by
    simp only [List.map_cons, T.pys, T.py, PyData.eqvAll, PyData.eqv, eqvAll_ii as bs, List.cons.injEq]
    by_cases h : a = b
    · simp [h]
    · simp [h]
theorem eqv_lst (a b : List Int) : T.eqv (.lst (a.map T.int)) (.lst (b.map T.int)) = decide (a = b) := by simp only [T.eqv, T.py, PyData.eqv, eqvAll_ii]
theorem eqv_tup (a b : List Int) : T.eqv (.tup (a.map T.int)) (.tup (b.map T.int)) = decide (a = b) := by simp only [T.eqv, T.py, PyData.eqv, eqvAll_ii]
theorem eqv_int (a b : Int) : T.eqv (.int a) (.int b) = decide (a = b) := by
  simp only [T.eqv, T.py, PyData.eqv]
  by_cases h : a = b
  · simp [h]
  · simp [h]
theorem clns_ii : ∀ a : List Int, T.clns (a.map T.int) = true
  | [] => rfl
  | a :: as => by simp [T.clns, T.cln, clns_ii as]
theorem deps_ii : ∀ a : List Int, T.deps (a.map T.int) = 0
  | [] => rfl
  | a :: as => by simp [T.deps, T.dep, deps_ii as]
theorem shp_lst (a : List Int) : (T.lst (a.map T.int)).shp = true := by simp [T.shp, T.cln, T.dep, clns_ii, deps_ii]
theorem shp_tup (a : List Int) : (T.tup (a.map T.int)).shp = true := by simp [T.shp, T.cln, T.dep, clns_ii, deps_ii]
theorem shp_int (a : Int) : (T.int a).shp = true := rfl
theorem eqOk_lst (a b : List Int) : eqOk (.lst (a.map T.int)) (.lst (b.map T.int)) = true := by simp only [eqOk, shp_lst, Bool.and_self, Bool.or_true]
theorem eqOk_tup (a b : List Int) : eqOk (.tup (a.map T.int)) (.tup (b.map T.int)) = true := by simp only [eqOk, shp_tup, Bool.and_self, Bool.or_true]
theorem eqOk_int (a b : Int) : eqOk (.int a) (.int b) = true := rfl
theorem noLs_ii : ∀ a : List Int, T.noLs (a.map T.int) = true
  | [] => rfl
  | a :: as => by simp [T.noLs, T.noL, noLs_ii as]
theorem noL_own (a : List Int) : (L.own (.lst (a.map T.int))).noL = true := noLs_ii a
theorem noL_tup (a : List Int) : (L.t (.tup (a.map T.int))).noL = true := noLs_ii a
theorem noL_int (a : Int) : (L.t (.int a)).noL = true := rfl
theorem noL_bl (a : Bool) : (L.t (.bl a)).noL = true := rfl
theorem noL_non : (L.t .non).noL = true := rfl
theorem cut_hi (xs : List T) (m : Nat) : cutT xs none (some (m : Int)) = xs.take m := by
  simp only [cutT, HT.sIx_none, HT.sIx_nat, List.drop_zero, Nat.sub_zero]
  by_cases h : m ≤ xs.length
  · rw [Nat.min_eq_left h]
  · rw [Nat.min_eq_right (by omega), List.take_of_length_le (Nat.le_refl _), List.take_of_length_le (by omega)]
theorem cut_lo (xs : List T) (m : Nat) : cutT xs (some (m : Int)) none = xs.drop m := by
  simp only [cutT, HT.sIx_none, HT.sIx_nat]
  by_cases h : m ≤ xs.length
  · rw [Nat.min_eq_left h, List.take_of_length_le (by simp)]
  · rw [Nat.min_eq_right (by omega), List.drop_of_length_le (Nat.le_refl _), List.drop_of_length_le (by omega)]; simp
theorem cut_lh (xs : List T) (m n : Nat) (h : m ≤ xs.length) (h2 : n ≤ xs.length) : cutT xs (some (m : Int)) (some (n : Int)) = (xs.drop m).take (n - m) := by
  simp only [cutT, HT.sIx_nat, Nat.min_eq_left h, Nat.min_eq_left h2]
theorem gLt_e (ρ : REnv) (i j : Int) : gLt ρ (.t (.int i)) (.t (.int j)) = some (decide (i < j)) := rfl
theorem gLe_e (ρ : REnv) (i j : Int) : gLe ρ (.t (.int i)) (.t (.int j)) = some (decide (i ≤ j)) := rfl
theorem gGt_e (ρ : REnv) (i j : Int) : gGt ρ (.t (.int i)) (.t (.int j)) = some (decide (j < i)) := rfl
theorem gGe_e (ρ : REnv) (i j : Int) : gGe ρ (.t (.int i)) (.t (.int j)) = some (decide (j ≤ i)) := rfl
theorem dBor_eq {d : Den} {ρ ρ' : REnv} {l : L} (h : d (frzE ρ) = some (l, ρ')) (n : l.noL = true) : dBor d ρ = some (l, ρ) := by simp [dBor, h, n]
theorem inBig_nat {n : Nat} (h : n < 10000) : inBig (n : Int) = true := by
  unfold inBig big
  simp only [Bool.and_eq_true, decide_eq_true_eq]
  omega
theorem rangeU0 (n : Nat) : rangeU 0 n = (List.range n).map fun i => T.int (i : Nat) := by
  unfold rangeU
  refine List.map_congr_left fun i _ => ?_
  rw [Int.zero_add]
theorem iRange1_j {d : DenA} {ρ ρ' : REnv} {j : Int} (h : d ρ = some ([.int j], ρ')) (hb : inBig j = true) : iRange1 d ρ = some (rangeU 0 j.toNat, none, ρ') := by simp only [iRange1, h, hb, Option.bind_some, if_true]
theorem iRange1_eq {d : Den} {ρ ρ' : REnv} {n : Nat} (h : d ρ = some (.t (.int n), ρ')) (hn : n < 10000) : iRange1 (dCons d dNil) ρ = some ((List.range n).map fun i => T.int (i : Nat), none, ρ') := by
  have e2 : dCons d dNil ρ = some ([.int n], ρ') := by simp only [dCons, dNil, h, Option.bind_some, Option.map_some, L.tree]
  have e3 := iRange1_j e2 (inBig_nat hn)
  rw [Int.toNat_natCast, rangeU0] at e3
  exact e3
theorem foldl_app {α β : Type} (f : α → β) : ∀ (as : List α) (b : List β), as.foldl (fun b a => b ++ [f a]) b = b ++ as.map f
  | [], b => by simp
  | a :: as, b => by simp [foldl_app f as]
/-- a loop that stops by break behind K turns -/
theorem forL_brk {α : Type} {g : DenG} {db : DenS} {t : α → T} (Inv : Nat → REnv → Prop) (K : Nat) (h : ∀ (j : Nat) (a : α) (ρ : REnv), j < K → Inv j ρ → ∃ ρa ρ', g (t a) ρ = some ρa ∧ db ρa = some (if j + 1 = K then .brk else .nx, ρ') ∧ Inv (j + 1) ρ') :
    ∀ (as : List α) (i : Nat), i < K → K ≤ i + as.length → ∀ ρ, Inv i ρ → ∃ ρ', forL g db (as.map t) ρ = some (.nx, ρ') ∧ Inv K ρ'
  | [], i, h1, h2, ρ, hI => by simp at h2; omega
  | a :: as, i, h1, h2, ρ, hI => by
    obtain ⟨ρa, ρ', e1, e2, e3⟩ := h i a ρ h1 hI
    by_cases hK : i + 1 = K
    · rw [if_pos hK] at e2
      subst hK
      exact ⟨ρ', by simp [forL, e1, e2], e3⟩
    · rw [if_neg hK] at e2
      obtain ⟨ρ2, h4, h5⟩ := forL_brk Inv K h as (i + 1) (by omega) (by simp at h2; omega) ρ' e3
      exact ⟨ρ2, by simp [forL, e1, e2, h4], h5⟩
theorem bodyP_own {n m : Nat} {d : DenS} {ts : List T} {ρ' : REnv} {c : OC} (hl : ts.length = n) (h : d (ts.map L.t ++ List.replicate (m - n) L.un) = some (.ret (.own c), ρ')) : bodyP n m d ts = some (.own c) := by simp only [bodyP, hl, h, if_true, Option.bind_some, finP]
theorem bodyP_t {n m : Nat} {d : DenS} {ts : List T} {ρ' : REnv} {x : T} (hl : ts.length = n) (h : d (ts.map L.t ++ List.replicate (m - n) L.un) = some (.ret (.t x), ρ')) : bodyP n m d ts = some (.t x) := by simp only [bodyP, hl, h, if_true, Option.bind_some, finP]
theorem bodyP_ref {n m i : Nat} {d : DenS} {ts : List T} {ρ' : REnv} {c : OC} (hl : ts.length = n) (h : d (ts.map L.t ++ List.replicate (m - n) L.un) = some (.ret (.ref i), ρ')) (h2 : ρ'[i]? = some (.own c)) : bodyP n m d ts = some (.own c) := by simp only [bodyP, hl, h, h2, if_true, Option.bind_some, finP]
theorem dFor_eq {as : List Nat} {src : DenI} {g : DenG} {db : DenS} {ρ ρ1 ρ2 : REnv} {xs : List T} {fl : Fl} (hs : src ρ = some (xs, none, ρ1)) (hl : forL g db xs ρ1 = some (fl, ρ2)) : dFor as src g db ρ = some (fl, ρ2) := by
  simp [dFor, hs, hideO, hl, restE]
theorem getD_app1 {a b : List Int} {i : Nat} (h : i < a.length) : (a ++ b).getD i 0 = a.getD i 0 := by simp [List.getD_eq_getElem?_getD, List.getElem?_append_left h]
theorem getD_app2 {a b : List Int} {i : Nat} (h : a.length ≤ i) : (a ++ b).getD i 0 = b.getD (i - a.length) 0 := by simp [List.getD_eq_getElem?_getD, List.getElem?_append_right h]
theorem forL_ix {α : Type} {g : DenG} {db : DenS} {t : α → T} (Inv : Nat → REnv → Prop) : ∀ (as : List α) (k : Nat), (∀ i a ρ, as[i]? = some a → Inv (k + i) ρ → ∃ ρa ρ', g (t a) ρ = some ρa ∧ db ρa = some (.nx, ρ') ∧ Inv (k + i + 1) ρ') →
    ∀ ρ, Inv k ρ → ∃ ρ', forL g db (as.map t) ρ = some (.nx, ρ') ∧ Inv (k + as.length) ρ'
  | [], k, _, ρ, hI => ⟨ρ, rfl, hI⟩
  | a :: as, k, h, ρ, hI => by
    obtain ⟨ρa, ρ', h1, h2, h3⟩ := h 0 a ρ rfl hI
    obtain ⟨ρ2, h4, h5⟩ := forL_ix Inv as (k + 1) (fun i x ρ hx hI => by
      have := h (i + 1) x ρ (by simpa using hx) (by rw [show k + (i + 1) = k + 1 + i by omega]; exact hI)
      rw [show k + (i + 1) + 1 = k + 1 + i + 1 by omega] at this
      exact this) ρ' h3
    exact ⟨ρ2, by simp [forL, h1, h2, h4], by rw [show k + (a :: as).length = k + 1 + as.length by simp; omega]; exact h5⟩
/-- over range(n) -/
theorem forL_range {g : DenG} {db : DenS} (Inv : Nat → REnv → Prop) (n : Nat) (h : ∀ i ρ, i < n → Inv i ρ → ∃ ρa ρ', g (T.int (i : Nat)) ρ = some ρa ∧ db ρa = some (.nx, ρ') ∧ Inv (i + 1) ρ') (ρ : REnv) (h0 : Inv 0 ρ) :
    ∃ ρ', forL g db ((List.range n).map fun i => T.int (i : Nat)) ρ = some (.nx, ρ') ∧ Inv n ρ' := by
  have := forL_ix (g := g) (db := db) (t := fun i : Nat => T.int (i : Nat)) Inv (List.range n) 0 (fun i a ρ ha hI => by
    have hi : i < n := by
      have := (List.getElem?_eq_some_iff.mp ha).1
      simpa using this
    have : a = i := by
      rw [List.getElem?_range hi] at ha
      exact (Option.some.inj ha).symm
    subst this
    rw [Nat.zero_add] at hI ⊢
    exact h a ρ hi hI) ρ h0
  simpa using this
theorem app_own {xs : List T} {x : T} (h : xs.length < line) : fAppend xs [x] = some (.non, xs ++ [x]) := by simp [fAppend, h]
theorem gDiv_e (ρ : REnv) {i j : Int} (h : 0 < j) (h2 : j < 1073741824) : gDiv ρ (.t (.int i)) (.t (.int j)) = some (.t (.int (i / j))) := by simp only [gDiv, h, h2, decide_true, Bool.and_self, if_true]
theorem gMul_e (ρ : REnv) {i j : Int} (h : mulOk i j = true) : gMul ρ (.t (.int i)) (.t (.int j)) = some (.t (.int (i * j))) := by simp only [gMul, h, if_true]
theorem den1_eq {g : REnv → L → Option L} {d : Den} {ρ ρ1 : REnv} {l1 l : L} (h1 : d ρ = some (l1, ρ1)) (hg : g ρ1 l1 = some l) : den1 g d ρ = some (l, ρ1) := by simp only [den1, h1, hg, Option.bind_some, Option.map_some]
theorem den2_eq {g : REnv → L → L → Option L} {d1 d2 : Den} {ρ ρ1 ρ2 : REnv} {l1 l2 l : L} (h1 : d1 ρ = some (l1, ρ1)) (h2 : d2 ρ1 = some (l2, ρ2)) (hg : g ρ2 l1 l2 = some l) : den2 g d1 d2 ρ = some (l, ρ2) := by simp only [den2, h1, h2, hg, Option.bind_some, Option.map_some]
theorem gMod_e (ρ : REnv) {i j : Int} (h : 0 < j) : gMod ρ (.t (.int i)) (.t (.int j)) = some (.t (.int (i % j))) := by simp only [gMod, h, if_true]
theorem gIx_l (ρ : REnv) {xs : List T} {i : Int} {x : T} (e : atI xs i = some x) : gIx ρ (.t (.lst xs)) (.t (.int i)) = some (.t x) := by simp only [gIx, L.lview, e, Option.bind_some, Option.map_some]
theorem gIx_o (ρ : REnv) {xs : List T} {i : Int} {x : T} {k : Nat} (h : ρ[k]? = some (.own (.lst xs))) (e : atI xs i = some x) : gIx ρ (.ref k) (.t (.int i)) = some (.t x) := by simp only [gIx, L.lview, h, e, Option.bind_some, Option.map_some]
theorem dCallP_eq {n : Nat} {f : List T → Option L} {da : DenA} {ρ ρ1 : REnv} {ts : List T} {r : L} (ha : da ρ = some (ts, ρ1)) (hn : ts.length = n) (hf : f ts = some r) (hr : nor r = some r) : dCallP n f da ρ = some (r, ρ1) := by simp only [dCallP, ha, hn, hf, hr, if_true, Option.bind_some, Option.map_some]
theorem dCons_eq {d : Den} {da : DenA} {ρ ρ1 ρ2 : REnv} {l : L} {x : T} {ts : List T} (h : d ρ = some (l, ρ1)) (e : l.tree = some x) (ha : da ρ1 = some (ts, ρ2)) : dCons d da ρ = some (x :: ts, ρ2) := by simp only [dCons, h, e, ha, Option.bind_some, Option.map_some]
end LW
namespace LK
open PySem PySem.Spec PyProof.Rows L2 LW
def topS (i : Nat) : Stmt := PySem.Challenge.pw_latewords_k68_rows_taken_round.main.body.getD i (.Pass ⟨0, 0, 0, 0⟩)
section
variable {P : Program} {w : World} {K : PySem.W.Frag} {mg : Str → Option Value} {base : Heap} {fa : Nat → Addr} {k : Nat} {f : Addr} {fd : FuncData}
abbrev s_next_number : Stmt := topS 1
theorem sc_next_number : FnScope ["p", "taps", "row", "j", "k"] ["p", "taps", "row"] (defScope s_next_number) := ⟨rfl, rfl, rfl, by decide +kernel, rfl, by decide +kernel, by decide +kernel⟩
def d_next_number : DenS := (dRet (den2 gMod (den1 gSum (compD (iEnumT (gVar 1)) [3, 4] (gTupT 2 (gConsT (gNameT 3) (gConsT (gNameT 4) gNilT))) dYes (den2 gMul (gVar 4) (den2 gIx (gVar 2) (den2 gSub (den2 gSub (den1 gLen (gVar 2)) (gC (.int 1))) (gVar 3)))))) (gVar 0)))
def f_next_number : List T → Option L := bodyP 3 5 d_next_number
theorem ok_next_number (F : Fun K "next_number" "next_number" s_next_number f fd) (hmg : mg "next_number" = some (.ref f)) (hb : Binds K fd ["p", "taps", "row"] []) (m_enumerate : mg "enumerate" = none) (m_len : mg "len" = none) (m_sum : mg "sum" = none) : Fn P w K mg base fa (k + 1) "next_number" 3 (pureF f_next_number) :=
  fn_pure (as := []) (d := d_next_number) F sc_next_number hmg hb fun cdv A outer s H E hr => (SSs.one (SS.ret (SE.mod (SE.sum (by rfl) (by rfl) m_sum (SE.lc (by rfl) (by rfl) sc_next_number.nd (SI.enum (by rfl) m_enumerate (SE.v 1 (by rfl) (by rfl) (by rfl) (by rfl)) (by rfl) (by rfl)) (blkOk_by (own := [("j", 3), ("k", 4)]) (N := ["p", "taps", "row", "j", "k"]) (sc := defScope s_next_number) (by decide +kernel)) (by decide) (fun _ _ _ _ _ => (SG.tup (n := 2) (by rfl) (SGs.cons (SG.n (i := 3) sc_next_number.nd (by rfl) (by rfl) (by rfl)) (SGs.cons (SG.n (i := 4) sc_next_number.nd (by rfl) (by rfl) (by rfl)) SGs.nil (by rfl)) (by rfl)) (by rfl) (by rfl))) (fun _ _ _ _ _ => STs.nil) (fun _ _ _ _ _ => (SE.mul (SE.v 4 (by rfl) (by rfl) (by rfl) (by rfl)) (SE.ix (SE.v 2 (by rfl) (by rfl) (by rfl) (by rfl)) (SE.sub (SE.sub (SE.len (by rfl) m_len (SE.v 2 (by rfl) (by rfl) (by rfl) (by rfl)) (by rfl)) SE.int) (SE.v 3 (by rfl) (by rfl) (by rfl) (by rfl))) (fun _ _ => (by rfl))))) (fun _ => (by rfl))) (by rfl)) (SE.v 0 (by rfl) (by rfl) (by rfl) (by rfl)))))
abbrev s_register_row : Stmt := topS 2
theorem sc_register_row : FnScope ["p", "taps", "begun", "many", "row"] ["p", "taps", "begun", "many"] (defScope s_register_row) := ⟨rfl, rfl, rfl, by decide +kernel, rfl, by decide +kernel, by decide +kernel⟩
def d_register_row : DenS := (dSeq (dSet 4 (den1 gList (gVar 2)))
  (dSeq (whileL (dBl (den2 (gB gLt) (den1 gLen (gVar 4)) (gVar 3))) (dDrop (dMeth 4 fAppend (dCons (dBor (dCallP 3 f_next_number (dCons (gVar 0) (dCons (gVar 1) (dCons (gVar 4) dNil))))) dNil))) 1000)
  (dRet (dSl (gVar 4) dNone (dSome (gVar 3))))))
def f_register_row : List T → Option L := bodyP 4 5 d_register_row
theorem ok_register_row (F : Fun K "register_row" "register_row" s_register_row f fd) (hmg : mg "register_row" = some (.ref f)) (hb : Binds K fd ["p", "taps", "begun", "many"] []) (c_next_number : Fn P w K mg base fa k "next_number" 3 (pureF f_next_number)) (m_len : mg "len" = none) (m_list : mg "list" = none) : Fn P w K mg base fa (k + 1) "register_row" 4 (pureF f_register_row) :=
  fn_pure (as := [4]) (d := d_register_row) F sc_register_row hmg hb fun cdv A outer s H E hr => (SSs.cons (SS.st (i := 4) sc_register_row.nd (by rfl) (by rfl) (SE.list1 (by rfl) m_list (SE.v 2 (by rfl) (by rfl) (by rfl) (by rfl)) (by rfl)) (by rfl) (by rfl))
      (SSs.cons (SS.while (n := 1000) PassesOwn.never (ST.cmp (SE.len (by rfl) m_len (SE.v 4 (by rfl) (by rfl) (by rfl) (by rfl)) (by rfl)) (SE.v 3 (by rfl) (by rfl) (by rfl) (by rfl)) (cmp_lt) (by rfl)) (SSs.one (SS.expr (SE.meth (i := 4) PySem.F.slot_list_append PySem.F.type_list_append mt_append me_append (by rfl) (vis_of (by rfl)) (by rfl) (by rfl) (SA.cons (SE.bor (SE.callP c_next_number hr (by rfl) (SA.cons (SE.v 0 (by rfl) (by rfl) (by rfl) (by rfl)) (SA.cons (SE.v 1 (by rfl) (by rfl) (by rfl) (by rfl)) (SA.cons (SE.v 4 (by rfl) (by rfl) (by rfl) (by rfl)) SA.nil (by rfl)) (by rfl)) (by rfl)) (by rfl) (by rfl) (by rfl))) SA.nil (by rfl)) (by rfl) (by rfl) (by rfl) (by rfl)) (by rfl))))
      (SSs.one (SS.ret (SE.sl (SE.v 4 (by rfl) (by rfl) (by rfl) (by rfl)) SO.none (SO.some (SE.v 3 (by rfl) (by rfl) (by rfl) (by rfl))))))))
abbrev s_next_state : Stmt := topS 4
theorem sc_next_state : FnScope ["p", "taps", "state"] ["p", "taps", "state"] (defScope s_next_state) := ⟨rfl, rfl, rfl, by decide +kernel, rfl, by decide +kernel, by decide +kernel⟩
def d_next_state : DenS := (dRet (den2 gAdd (dSl (gVar 2) (dSome (gC (.int 1))) dNone) (dTup (dCons (dCallP 3 f_next_number (dCons (gVar 0) (dCons (gVar 1) (dCons (den1 gList (gVar 2)) dNil)))) dNil))))
def f_next_state : List T → Option L := bodyP 3 3 d_next_state
theorem ok_next_state (F : Fun K "next_state" "next_state" s_next_state f fd) (hmg : mg "next_state" = some (.ref f)) (hb : Binds K fd ["p", "taps", "state"] []) (c_next_number : Fn P w K mg base fa k "next_number" 3 (pureF f_next_number)) (m_list : mg "list" = none) : Fn P w K mg base fa (k + 1) "next_state" 3 (pureF f_next_state) :=
  fn_pure (as := []) (d := d_next_state) F sc_next_state hmg hb fun cdv A outer s H E hr => (SSs.one (SS.ret (SE.add (SE.sl (SE.v 2 (by rfl) (by rfl) (by rfl) (by rfl)) (SO.some SE.int) SO.none) (SE.tup (SA.cons (SE.callP c_next_number hr (by rfl) (SA.cons (SE.v 0 (by rfl) (by rfl) (by rfl) (by rfl)) (SA.cons (SE.v 1 (by rfl) (by rfl) (by rfl) (by rfl)) (SA.cons (SE.list1 (by rfl) m_list (SE.v 2 (by rfl) (by rfl) (by rfl) (by rfl)) (by rfl)) SA.nil (by rfl)) (by rfl)) (by rfl)) (by rfl) (by rfl) (by rfl)) SA.nil (by rfl))))))
abbrev s_round_from : Stmt := topS 5
theorem sc_round_from : FnScope ["p", "taps", "state", "found", "here"] ["p", "taps", "state"] (defScope s_round_from) := ⟨rfl, rfl, rfl, by decide +kernel, rfl, by decide +kernel, by decide +kernel⟩
def d_round_from : DenS := (dSeq (dSet 3 (dLst (dCons (gVar 2) dNil)))
  (dSeq (dSet 4 (dCallP 3 f_next_state (dCons (gVar 0) (dCons (gVar 1) (dCons (gVar 2) dNil)))))
  (dSeq (whileL (dBl (den2 (gB gNe) (gVar 4) (gVar 2))) (dSeq (dDrop (dMeth 3 fAppend (dCons (gVar 4) dNil)))
  (dSet 4 (dBor (dCallP 3 f_next_state (dCons (gVar 0) (dCons (gVar 1) (dCons (gVar 4) dNil))))))) 1000)
  (dRet (gVar 3)))))
def f_round_from : List T → Option L := bodyP 3 5 d_round_from
theorem ok_round_from (F : Fun K "round_from" "round_from" s_round_from f fd) (hmg : mg "round_from" = some (.ref f)) (hb : Binds K fd ["p", "taps", "state"] []) (c_next_state : Fn P w K mg base fa k "next_state" 3 (pureF f_next_state)) : Fn P w K mg base fa (k + 1) "round_from" 3 (pureF f_round_from) :=
  fn_pure (as := [3, 4, 4]) (d := d_round_from) F sc_round_from hmg hb fun cdv A outer s H E hr => (SSs.cons (SS.st (i := 3) sc_round_from.nd (by rfl) (by rfl) (SE.lst (SA.cons (SE.v 2 (by rfl) (by rfl) (by rfl) (by rfl)) SA.nil (by rfl))) (by rfl) (by rfl))
      (SSs.cons (SS.st (i := 4) sc_round_from.nd (by rfl) (by rfl) (SE.callP c_next_state hr (by rfl) (SA.cons (SE.v 0 (by rfl) (by rfl) (by rfl) (by rfl)) (SA.cons (SE.v 1 (by rfl) (by rfl) (by rfl) (by rfl)) (SA.cons (SE.v 2 (by rfl) (by rfl) (by rfl) (by rfl)) SA.nil (by rfl)) (by rfl)) (by rfl)) (by rfl) (by rfl) (by rfl)) (by rfl) (by rfl))
      (SSs.cons (SS.while (n := 1000) PassesOwn.never (ST.cmp (SE.v 4 (by rfl) (by rfl) (by rfl) (by rfl)) (SE.v 2 (by rfl) (by rfl) (by rfl) (by rfl)) (cmp_ne (room64 hr)) (by rfl)) (SSs.cons (SS.expr (SE.meth (i := 3) PySem.F.slot_list_append PySem.F.type_list_append mt_append me_append (by rfl) (vis_of (by rfl)) (by rfl) (by rfl) (SA.cons (SE.v 4 (by rfl) (by rfl) (by rfl) (by rfl)) SA.nil (by rfl)) (by rfl) (by rfl) (by rfl) (by rfl)) (by rfl))
      (SSs.one (SS.st (i := 4) sc_round_from.nd (by rfl) (by rfl) (SE.bor (SE.callP c_next_state hr (by rfl) (SA.cons (SE.v 0 (by rfl) (by rfl) (by rfl) (by rfl)) (SA.cons (SE.v 1 (by rfl) (by rfl) (by rfl) (by rfl)) (SA.cons (SE.v 4 (by rfl) (by rfl) (by rfl) (by rfl)) SA.nil (by rfl)) (by rfl)) (by rfl)) (by rfl) (by rfl) (by rfl))) (by rfl) (by rfl)))))
      (SSs.one (SS.ret (SE.v 3 (by rfl) (by rfl) (by rfl) (by rfl)))))))
abbrev s_greatest_common : Stmt := topS 6
theorem sc_greatest_common : FnScope ["one", "other"] ["one", "other"] (defScope s_greatest_common) := ⟨rfl, rfl, rfl, by decide +kernel, rfl, by decide +kernel, by decide +kernel⟩
def d_greatest_common : DenS := (dSeq (whileL (dTru (gVar 1)) (dPar 0 1 (dCons (gVar 1) (dCons (den2 gMod (gVar 0) (gVar 1)) dNil))) 1000)
  (dRet (gVar 0)))
def f_greatest_common : List T → Option L := bodyP 2 2 d_greatest_common
theorem ok_greatest_common (F : Fun K "greatest_common" "greatest_common" s_greatest_common f fd) (hmg : mg "greatest_common" = some (.ref f)) (hb : Binds K fd ["one", "other"] [])  : Fn P w K mg base fa (k + 1) "greatest_common" 2 (pureF f_greatest_common) :=
  fn_pure (as := [0, 1]) (d := d_greatest_common) F sc_greatest_common hmg hb fun cdv A outer s H E hr => (SSs.cons (SS.while (n := 1000) PassesOwn.never (SE.truth (SE.v 1 (by rfl) (by rfl) (by rfl) (by rfl)) (fun _ => (by rfl))) (SSs.one (SS.par (i := 0) (j := 1) (by rfl) sc_greatest_common.nd (by rfl) (by rfl) (by decide) (by rfl) (by rfl) (SA.cons (SE.v 1 (by rfl) (by rfl) (by rfl) (by rfl)) (SA.cons (SE.mod (SE.v 0 (by rfl) (by rfl) (by rfl) (by rfl)) (SE.v 1 (by rfl) (by rfl) (by rfl) (by rfl))) SA.nil (by rfl)) (by rfl)) (by rfl) (by rfl))))
      (SSs.one (SS.ret (SE.v 0 (by rfl) (by rfl) (by rfl) (by rfl)))))
abbrev s_agreements : Stmt := topS 8
theorem sc_agreements : FnScope ["row", "other", "many", "i", "s"] ["row", "other"] (defScope s_agreements) := ⟨rfl, rfl, rfl, by decide +kernel, rfl, by decide +kernel, by decide +kernel⟩
def d_agreements : DenS := (dSeq (dSet 2 (den1 gLen (gVar 0)))
  (dRet (compD (iRange1 (dCons (gVar 2) dNil)) [4] (gNameT 4) dYes (den1 gLen (compD (iRange1 (dCons (gVar 2) dNil)) [3] (gNameT 3) (dBl (den2 (gB gEq) (den2 gIx (gVar 0) (gVar 3)) (den2 gIx (gVar 1) (den2 gMod (den2 gAdd (gVar 3) (gVar 4)) (gVar 2))))) (gVar 3))))))
def f_agreements : List T → Option L := bodyP 2 5 d_agreements
theorem ok_agreements (F : Fun K "agreements" "agreements" s_agreements f fd) (hmg : mg "agreements" = some (.ref f)) (hb : Binds K fd ["row", "other"] []) (m_len : mg "len" = none) (m_range : mg "range" = none) : Fn P w K mg base fa (k + 1) "agreements" 2 (pureF f_agreements) :=
  fn_pure (as := [2]) (d := d_agreements) F sc_agreements hmg hb fun cdv A outer s H E hr => (SSs.cons (SS.st (i := 2) sc_agreements.nd (by rfl) (by rfl) (SE.len (by rfl) m_len (SE.v 0 (by rfl) (by rfl) (by rfl) (by rfl)) (by rfl)) (by rfl) (by rfl))
      (SSs.one (SS.ret (SE.lc (by rfl) (by rfl) sc_agreements.nd (SI.range1 (by rfl) m_range (SA.cons (SE.v 2 (by rfl) (by rfl) (by rfl) (by rfl)) SA.nil (by rfl)) (by rfl)) (blkOk_by (own := [("s", 4)]) (N := ["row", "other", "many", "i", "s"]) (sc := defScope s_agreements) (by decide +kernel)) (by decide) (fun _ _ _ _ _ => (SG.n (i := 4) sc_agreements.nd (by rfl) (by rfl) (by rfl))) (fun _ _ _ _ _ => STs.nil) (fun _ _ _ _ _ => (SE.len (by rfl) m_len (SE.lc (by rfl) (by rfl) sc_agreements.nd (SI.range1 (by rfl) m_range (SA.cons (SE.v 2 (by rfl) (by rfl) (by rfl) (by rfl)) SA.nil (by rfl)) (by rfl)) (blkOk_by (own := [("i", 3)]) (N := ["row", "other", "many", "i", "s"]) (sc := relS _ (defScope s_agreements)) (by decide +kernel)) (by decide) (fun _ _ _ _ _ => (SG.n (i := 3) sc_agreements.nd (by rfl) (by rfl) (by rfl))) (fun _ _ _ _ _ => (STs.one (ST.cmp (SE.ix (SE.v 0 (by rfl) (by rfl) (by rfl) (by rfl)) (SE.v 3 (by rfl) (by rfl) (by rfl) (by rfl)) (fun _ _ => (by rfl))) (SE.ix (SE.v 1 (by rfl) (by rfl) (by rfl) (by rfl)) (SE.mod (SE.add (SE.v 3 (by rfl) (by rfl) (by rfl) (by rfl)) (SE.v 4 (by rfl) (by rfl) (by rfl) (by rfl))) (SE.v 2 (by rfl) (by rfl) (by rfl) (by rfl))) (fun _ _ => (by rfl))) (cmp_eq (room64 hr)) (by rfl)))) (fun _ _ _ _ _ => (SE.v 3 (by rfl) (by rfl) (by rfl) (by rfl))) (fun _ => (by rfl))) (by rfl))) (fun _ => (by rfl))))))
abbrev s_runs_of : Stmt := topS 9
theorem sc_runs_of : FnScope ["row", "many", "begun", "i", "lengths", "own", "after"] ["row"] (defScope s_runs_of) := ⟨rfl, rfl, rfl, by decide +kernel, rfl, by decide +kernel, by decide +kernel⟩
def d_runs_of : DenS := (dSeq (dSet 1 (den1 gLen (gVar 0)))
  (dSeq (dSet 2 (compD (iRange1 (dCons (gVar 1) dNil)) [3] (gNameT 3) (dBl (den2 (gB gNe) (den2 gIx (gVar 0) (gVar 3)) (den2 gIx (gVar 0) (den2 gSub (gVar 3) (gC (.int 1)))))) (gVar 3)))
  (dSeq (dSet 4 (compD (iZipT (gVar 2) (den2 gAdd (dSl (gVar 2) (dSome (gC (.int 1))) dNone) (dSl (gVar 2) dNone (dSome (gC (.int 1)))))) [5, 6] (gTupT 2 (gConsT (gNameT 5) (gConsT (gNameT 6) gNilT))) dYes (den2 gMod (den2 gSub (gVar 6) (gVar 5)) (gVar 1))))
  (dRet (compD (iSeq (den1 gSortSet (gVar 4))) [5] (gNameT 5) dYes (dTup (dCons (gVar 5) (dCons (dVm vCountI (gVar 4) (gVar 5)) dNil))))))))
def f_runs_of : List T → Option L := bodyP 1 7 d_runs_of
theorem ok_runs_of (F : Fun K "runs_of" "runs_of" s_runs_of f fd) (hmg : mg "runs_of" = some (.ref f)) (hb : Binds K fd ["row"] []) (m_len : mg "len" = none) (m_range : mg "range" = none) (m_set : mg "set" = none) (m_sorted : mg "sorted" = none) (m_zip : mg "zip" = none) : Fn P w K mg base fa (k + 1) "runs_of" 1 (pureF f_runs_of) :=
  fn_pure (as := [1, 2, 4]) (d := d_runs_of) F sc_runs_of hmg hb fun cdv A outer s H E hr => (SSs.cons (SS.st (i := 1) sc_runs_of.nd (by rfl) (by rfl) (SE.len (by rfl) m_len (SE.v 0 (by rfl) (by rfl) (by rfl) (by rfl)) (by rfl)) (by rfl) (by rfl))
      (SSs.cons (SS.lc (i := 2) (by rfl) (by rfl) sc_runs_of.nd (by rfl) (by rfl) (sw_true (by rfl) (by rfl) (by rfl) (by decide +kernel)) (SI.range1 (by rfl) m_range (SA.cons (SE.v 1 (by rfl) (by rfl) (by rfl) (by rfl)) SA.nil (by rfl)) (by rfl)) (blkOk_by (own := [("i", 3)]) (N := ["row", "many", "begun", "i", "lengths", "own", "after"]) (sc := defScope s_runs_of) (by decide +kernel)) (by decide) (fun _ _ _ _ _ => (SG.n (i := 3) sc_runs_of.nd (by rfl) (by rfl) (by rfl))) (fun _ _ _ _ _ => (STs.one (ST.cmp (SE.ix (SE.v 0 (by rfl) (by rfl) (by rfl) (by rfl)) (SE.v 3 (by rfl) (by rfl) (by rfl) (by rfl)) (fun _ _ => (by rfl))) (SE.ix (SE.v 0 (by rfl) (by rfl) (by rfl) (by rfl)) (SE.sub (SE.v 3 (by rfl) (by rfl) (by rfl) (by rfl)) SE.int) (fun _ _ => (by rfl))) (cmp_ne (room64 hr)) (by rfl)))) (fun _ _ _ _ _ => (SE.v 3 (by rfl) (by rfl) (by rfl) (by rfl))) (fun _ => (by rfl)))
      (SSs.cons (SS.st (i := 4) sc_runs_of.nd (by rfl) (by rfl) (SE.lc (by rfl) (by rfl) sc_runs_of.nd (SI.zip (by rfl) m_zip (SE.v 2 (by rfl) (by rfl) (by rfl) (by rfl)) (SE.add (SE.sl (SE.v 2 (by rfl) (by rfl) (by rfl) (by rfl)) (SO.some SE.int) SO.none) (SE.sl (SE.v 2 (by rfl) (by rfl) (by rfl) (by rfl)) SO.none (SO.some SE.int))) (by rfl) (by rfl) (by rfl)) (blkOk_by (own := [("own", 5), ("after", 6)]) (N := ["row", "many", "begun", "i", "lengths", "own", "after"]) (sc := defScope s_runs_of) (by decide +kernel)) (by decide) (fun _ _ _ _ _ => (SG.tup (n := 2) (by rfl) (SGs.cons (SG.n (i := 5) sc_runs_of.nd (by rfl) (by rfl) (by rfl)) (SGs.cons (SG.n (i := 6) sc_runs_of.nd (by rfl) (by rfl) (by rfl)) SGs.nil (by rfl)) (by rfl)) (by rfl) (by rfl))) (fun _ _ _ _ _ => STs.nil) (fun _ _ _ _ _ => (SE.mod (SE.sub (SE.v 6 (by rfl) (by rfl) (by rfl) (by rfl)) (SE.v 5 (by rfl) (by rfl) (by rfl) (by rfl))) (SE.v 1 (by rfl) (by rfl) (by rfl) (by rfl)))) (fun _ => (by rfl))) (by rfl) (by rfl))
      (SSs.one (SS.ret (SE.lc (by rfl) (by rfl) sc_runs_of.nd (SI.seq (SE.sortSet (by rfl) (by rfl) m_sorted (by rfl) m_set (SE.v 4 (by rfl) (by rfl) (by rfl) (by rfl)) (by rfl) (by rfl))) (blkOk_by (own := [("own", 5)]) (N := ["row", "many", "begun", "i", "lengths", "own", "after"]) (sc := defScope s_runs_of) (by decide +kernel)) (by decide) (fun _ _ _ _ _ => (SG.n (i := 5) sc_runs_of.nd (by rfl) (by rfl) (by rfl))) (fun _ _ _ _ _ => STs.nil) (fun _ _ _ _ _ => (SE.tup (SA.cons (SE.v 5 (by rfl) (by rfl) (by rfl) (by rfl)) (SA.cons (SE.vm PySem.F.slot_list_count PySem.F.type_list_count mt_lcount vm_countI (SE.v 4 (by rfl) (by rfl) (by rfl) (by rfl)) (SE.v 5 (by rfl) (by rfl) (by rfl) (by rfl)) (by rfl) (by rfl) (by rfl) (by rfl)) SA.nil (by rfl)) (by rfl)))) (fun _ => (by rfl))))))))
abbrev s_shift_and_add : Stmt := topS 10
theorem sc_shift_and_add : FnScope ["p", "taps", "begun", "ticks", "many", "row", "total", "i", "shift"] ["p", "taps", "begun", "ticks"] (defScope s_shift_and_add) := ⟨rfl, rfl, rfl, by decide +kernel, rfl, by decide +kernel, by decide +kernel⟩
def d_shift_and_add : DenS := (dSeq (dSet 4 (den1 gLen (dCallP 3 f_round_from (dCons (gVar 0) (dCons (gVar 1) (dCons (den1 gTuple (gVar 2)) dNil))))))
  (dSeq (dSet 5 (dCallP 4 f_register_row (dCons (gVar 0) (dCons (gVar 1) (dCons (gVar 2) (dCons (gVar 4) dNil))))))
  (dSeq (dSet 6 (compD (iRange1 (dCons (gVar 4) dNil)) [7] (gNameT 7) dYes (den2 gMod (den2 gAdd (den2 gIx (gVar 5) (gVar 7)) (den2 gIx (gVar 5) (den2 gMod (den2 gAdd (gVar 7) (gVar 3)) (gVar 4)))) (gVar 0))))
  (dSeq (dFor [8] (iRange1 (dCons (gVar 4) dNil)) (gNameT 8) (dIfS (dBl (den2 (gB gEq) (gVar 6) (den2 gAdd (dSl (gVar 5) (dSome (gVar 8)) dNone) (dSl (gVar 5) dNone (dSome (gVar 8)))))) (dRet (gVar 8)) dNx))
  (dRet (gC .non))))))
def f_shift_and_add : List T → Option L := bodyP 4 9 d_shift_and_add
theorem ok_shift_and_add (F : Fun K "shift_and_add" "shift_and_add" s_shift_and_add f fd) (hmg : mg "shift_and_add" = some (.ref f)) (hb : Binds K fd ["p", "taps", "begun", "ticks"] []) (c_register_row : Fn P w K mg base fa k "register_row" 4 (pureF f_register_row)) (c_round_from : Fn P w K mg base fa k "round_from" 3 (pureF f_round_from)) (m_len : mg "len" = none) (m_range : mg "range" = none) (m_tuple : mg "tuple" = none) : Fn P w K mg base fa (k + 1) "shift_and_add" 4 (pureF f_shift_and_add) :=
  fn_pure (as := [4, 5, 6, 8]) (d := d_shift_and_add) F sc_shift_and_add hmg hb fun cdv A outer s H E hr => (SSs.cons (SS.st (i := 4) sc_shift_and_add.nd (by rfl) (by rfl) (SE.len (by rfl) m_len (SE.callP c_round_from hr (by rfl) (SA.cons (SE.v 0 (by rfl) (by rfl) (by rfl) (by rfl)) (SA.cons (SE.v 1 (by rfl) (by rfl) (by rfl) (by rfl)) (SA.cons (SE.tuple1 (by rfl) m_tuple (SE.v 2 (by rfl) (by rfl) (by rfl) (by rfl)) (by rfl)) SA.nil (by rfl)) (by rfl)) (by rfl)) (by rfl) (by rfl) (by rfl)) (by rfl)) (by rfl) (by rfl))
      (SSs.cons (SS.st (i := 5) sc_shift_and_add.nd (by rfl) (by rfl) (SE.callP c_register_row hr (by rfl) (SA.cons (SE.v 0 (by rfl) (by rfl) (by rfl) (by rfl)) (SA.cons (SE.v 1 (by rfl) (by rfl) (by rfl) (by rfl)) (SA.cons (SE.v 2 (by rfl) (by rfl) (by rfl) (by rfl)) (SA.cons (SE.v 4 (by rfl) (by rfl) (by rfl) (by rfl)) SA.nil (by rfl)) (by rfl)) (by rfl)) (by rfl)) (by rfl) (by rfl) (by rfl)) (by rfl) (by rfl))
      (SSs.cons (SS.lc (i := 6) (by rfl) (by rfl) sc_shift_and_add.nd (by rfl) (by rfl) (sw_true (by rfl) (by rfl) (by rfl) (by decide +kernel)) (SI.range1 (by rfl) m_range (SA.cons (SE.v 4 (by rfl) (by rfl) (by rfl) (by rfl)) SA.nil (by rfl)) (by rfl)) (blkOk_by (own := [("i", 7)]) (N := ["p", "taps", "begun", "ticks", "many", "row", "total", "i", "shift"]) (sc := defScope s_shift_and_add) (by decide +kernel)) (by decide) (fun _ _ _ _ _ => (SG.n (i := 7) sc_shift_and_add.nd (by rfl) (by rfl) (by rfl))) (fun _ _ _ _ _ => STs.nil) (fun _ _ _ _ _ => (SE.mod (SE.add (SE.ix (SE.v 5 (by rfl) (by rfl) (by rfl) (by rfl)) (SE.v 7 (by rfl) (by rfl) (by rfl) (by rfl)) (fun _ _ => (by rfl))) (SE.ix (SE.v 5 (by rfl) (by rfl) (by rfl) (by rfl)) (SE.mod (SE.add (SE.v 7 (by rfl) (by rfl) (by rfl) (by rfl)) (SE.v 3 (by rfl) (by rfl) (by rfl) (by rfl))) (SE.v 4 (by rfl) (by rfl) (by rfl) (by rfl))) (fun _ _ => (by rfl)))) (SE.v 0 (by rfl) (by rfl) (by rfl) (by rfl)))) (fun _ => (by rfl)))
      (SSs.cons (SS.for PassesOwn.never (by rfl) (SI.range1 (by rfl) m_range (SA.cons (SE.v 4 (by rfl) (by rfl) (by rfl) (by rfl)) SA.nil (by rfl)) (by rfl)) (SG.n (i := 8) sc_shift_and_add.nd (by rfl) (by rfl) (by rfl)) (SSs.one (SS.ite (ST.cmp (SE.v 6 (by rfl) (by rfl) (by rfl) (by rfl)) (SE.add (SE.sl (SE.v 5 (by rfl) (by rfl) (by rfl) (by rfl)) (SO.some (SE.v 8 (by rfl) (by rfl) (by rfl) (by rfl))) SO.none) (SE.sl (SE.v 5 (by rfl) (by rfl) (by rfl) (by rfl)) SO.none (SO.some (SE.v 8 (by rfl) (by rfl) (by rfl) (by rfl))))) (cmp_eq (room64 hr)) (by rfl)) (SSs.one (SS.ret (SE.v 8 (by rfl) (by rfl) (by rfl) (by rfl)))) SSs.nil)) (fun _ => (by rfl)))
      (SSs.one (SS.ret SE.non))))))
abbrev s_thinned : Stmt := topS 11
theorem sc_thinned : FnScope ["row", "step", "many", "i"] ["row", "step"] (defScope s_thinned) := ⟨rfl, rfl, rfl, by decide +kernel, rfl, by decide +kernel, by decide +kernel⟩
def d_thinned : DenS := (dSeq (dSet 2 (den1 gLen (gVar 0)))
  (dRet (compD (iRange1 (dCons (den2 gDiv (gVar 2) (dCallP 2 f_greatest_common (dCons (gVar 2) (dCons (gVar 1) dNil)))) dNil)) [3] (gNameT 3) dYes (den2 gIx (gVar 0) (den2 gMod (den2 gMul (gVar 3) (gVar 1)) (gVar 2))))))
def f_thinned : List T → Option L := bodyP 2 4 d_thinned
theorem ok_thinned (F : Fun K "thinned" "thinned" s_thinned f fd) (hmg : mg "thinned" = some (.ref f)) (hb : Binds K fd ["row", "step"] []) (c_greatest_common : Fn P w K mg base fa k "greatest_common" 2 (pureF f_greatest_common)) (m_len : mg "len" = none) (m_range : mg "range" = none) : Fn P w K mg base fa (k + 1) "thinned" 2 (pureF f_thinned) :=
  fn_pure (as := [2]) (d := d_thinned) F sc_thinned hmg hb fun cdv A outer s H E hr => (SSs.cons (SS.st (i := 2) sc_thinned.nd (by rfl) (by rfl) (SE.len (by rfl) m_len (SE.v 0 (by rfl) (by rfl) (by rfl) (by rfl)) (by rfl)) (by rfl) (by rfl))
      (SSs.one (SS.ret (SE.lc (by rfl) (by rfl) sc_thinned.nd (SI.range1 (by rfl) m_range (SA.cons (SE.div (SE.v 2 (by rfl) (by rfl) (by rfl) (by rfl)) (SE.callP c_greatest_common hr (by rfl) (SA.cons (SE.v 2 (by rfl) (by rfl) (by rfl) (by rfl)) (SA.cons (SE.v 1 (by rfl) (by rfl) (by rfl) (by rfl)) SA.nil (by rfl)) (by rfl)) (by rfl) (by rfl) (by rfl))) SA.nil (by rfl)) (by rfl)) (blkOk_by (own := [("i", 3)]) (N := ["row", "step", "many", "i"]) (sc := defScope s_thinned) (by decide +kernel)) (by decide) (fun _ _ _ _ _ => (SG.n (i := 3) sc_thinned.nd (by rfl) (by rfl) (by rfl))) (fun _ _ _ _ _ => STs.nil) (fun _ _ _ _ _ => (SE.ix (SE.v 0 (by rfl) (by rfl) (by rfl) (by rfl)) (SE.mod (SE.mul (SE.v 3 (by rfl) (by rfl) (by rfl) (by rfl)) (SE.v 1 (by rfl) (by rfl) (by rfl) (by rfl))) (SE.v 2 (by rfl) (by rfl) (by rfl) (by rfl))) (fun _ _ => (by rfl)))) (fun _ => (by rfl))))))
abbrev s__law_feed : Stmt := topS 13
theorem sc__law_feed : FnScope ["script"] ["script"] (defScope s__law_feed) := ⟨rfl, rfl, rfl, by decide +kernel, rfl, by decide +kernel, by decide +kernel⟩
def d__law_feed : DenS := (dRet (dLst (dCons (den1 gList (gVar 0)) (dCons (gC (.int 0)) (dCons (gC (.int 0)) (dCons (gC (.int 1)) dNil))))))
def f__law_feed : List T → Option L := bodyP 1 1 d__law_feed
theorem ok__law_feed (F : Fun K "_law_feed" "_law_feed" s__law_feed f fd) (hmg : mg "_law_feed" = some (.ref f)) (hb : Binds K fd ["script"] []) (m_list : mg "list" = none) : Fn P w K mg base fa (k + 1) "_law_feed" 1 (pureF f__law_feed) :=
  fn_pure (as := []) (d := d__law_feed) F sc__law_feed hmg hb fun cdv A outer s H E hr => (SSs.one (SS.ret (SE.lst (SA.cons (SE.list1 (by rfl) m_list (SE.v 0 (by rfl) (by rfl) (by rfl) (by rfl)) (by rfl)) (SA.cons SE.int (SA.cons SE.int (SA.cons SE.int SA.nil (by rfl)) (by rfl)) (by rfl)) (by rfl)))))
abbrev s__law_draw : Stmt := topS 14
theorem sc__law_draw : FnScope ["feed", "many", "cell", "told", "mixed"] ["feed", "many"] (defScope s__law_draw) := ⟨rfl, rfl, rfl, by decide +kernel, rfl, by decide +kernel, by decide +kernel⟩
def d__law_draw : DenS := (dSeq (dIfS (dAnd (dBl (den2 (gB gEq) (den2 gIx (gVar 0) (gC (.int 2))) (gC (.int 0)))) (dBl (den2 (gB gLt) (den2 gIx (gVar 0) (gC (.int 1))) (den1 gLen (den2 gIx (gVar 0) (gC (.int 0))))))) (dSeq (dSet 2 (den1 gAbs (den1 gInt (den2 gIx (den2 gIx (gVar 0) (gC (.int 0))) (den2 gIx (gVar 0) (gC (.int 1)))))))
  (dSeq (dAugS 0 gIAdd (gC (.int 1)) (gC (.int 1)))
  (dIfS (dBl (den2 (gB gGe) (gVar 2) (den2 gPow (gC (.int 10)) (gC (.int 18))))) (dAsg (gVar 2) (gSubT 0 (gC (.int 2)))) (dAsg (den2 gMod (den1 gInt (den2 gAdd (den2 gAdd (den2 gMul (den2 gIx (gVar 0) (gC (.int 3))) (gC (.int 48271))) (den2 gMul (gVar 2) (gC (.int 69621)))) (den2 gIx (gVar 0) (gC (.int 1))))) (gC (.int 2147483647))) (gSubT 0 (gC (.int 3))))))) dNx)
  (dSeq (dIfS (dBl (den2 (gB gGt) (den2 gIx (gVar 0) (gC (.int 2))) (gC (.int 0)))) (dSeq (dSet 3 (den2 gMod (den1 gInt (den2 gIx (gVar 0) (gC (.int 2)))) (gVar 1)))
  (dSeq (dAsg (den2 gDiv (den2 gIx (gVar 0) (gC (.int 2))) (gVar 1)) (gSubT 0 (gC (.int 2))))
  (dRet (gVar 3)))) dNx)
  (dSeq (dAsg (den2 gMod (den1 gInt (den2 gAdd (den2 gMul (den2 gIx (gVar 0) (gC (.int 3))) (gC (.int 16807))) (gC (.int 12345)))) (gC (.int 2147483647))) (gSubT 0 (gC (.int 3))))
  (dSeq (dSet 4 (den2 gMod (den1 gInt (den2 gAdd (den2 gMul (den2 gIx (gVar 0) (gC (.int 3))) (den2 gIx (gVar 0) (gC (.int 3)))) (den2 gIx (gVar 0) (gC (.int 3))))) (gC (.int 2147483629))))
  (dRet (den2 gMod (den2 gDiv (gVar 4) (gC (.int 11))) (gVar 1)))))))
def g__law_draw : List T → List T → Option (L × List T) := bodyF 2 5 [2, 3, 4] d__law_draw
theorem ok__law_draw (F : Fun K "_law_draw" "_law_draw" s__law_draw f fd) (hmg : mg "_law_draw" = some (.ref f)) (hb : Binds K fd ["feed", "many"] []) (m_abs : mg "abs" = none) (m_int : mg "int" = none) (m_len : mg "len" = none) : Fn P w K mg base fa (k + 1) "_law_draw" 2 (feedF g__law_draw) :=
  fn_feed (as := [2, 3, 4]) (d := d__law_draw) F sc__law_draw hmg hb fun cdv A outer s H E hr => (SSs.cons (SS.ite (SW.test (SW.and (ST.cmp (SE.ix (SE.v 0 (by rfl) (by rfl) (by rfl) (by rfl)) SE.int (fun _ _ => (by rfl))) SE.int (cmp_eq (room64 hr)) (by rfl)) (SW.and1 (ST.cmp (SE.ix (SE.v 0 (by rfl) (by rfl) (by rfl) (by rfl)) SE.int (fun _ _ => (by rfl))) (SE.len (by rfl) m_len (SE.ix (SE.v 0 (by rfl) (by rfl) (by rfl) (by rfl)) SE.int (fun _ _ => (by rfl))) (by rfl)) (cmp_lt) (by rfl))))) (SSs.cons (SS.st (i := 2) sc__law_draw.nd (by rfl) (by rfl) (SE.abs (by rfl) m_abs (SE.int1 (by rfl) m_int (SE.ix (SE.ix (SE.v 0 (by rfl) (by rfl) (by rfl) (by rfl)) SE.int (fun _ _ => (by rfl))) (SE.ix (SE.v 0 (by rfl) (by rfl) (by rfl) (by rfl)) SE.int (fun _ _ => (by rfl))) (fun _ _ => (by rfl))) (by rfl)) (by rfl)) (by rfl) (by rfl))
      (SSs.cons (SS.augS (j := 0) (by rfl) (vis_of (by rfl)) (by rfl) (by rfl) SE.int SE.int iop_addT opt_iadd (fun _ _ _ => (by rfl)))
      (SSs.one (SS.ite (ST.cmp (SE.v 2 (by rfl) (by rfl) (by rfl) (by rfl)) (SE.pow SE.int SE.int) (cmp_ge) (by rfl)) (SSs.one (SS.asgM (SE.v 2 (by rfl) (by rfl) (by rfl) (by rfl)) (SM.sub (j := 0) (by rfl) (vis_of (by rfl)) (by rfl) (by rfl) SE.int (fun _ => (by rfl))) (by rfl) (by rfl) (by rfl))) (SSs.one (SS.asgM (SE.mod (SE.int1 (by rfl) m_int (SE.add (SE.add (SE.mul (SE.ix (SE.v 0 (by rfl) (by rfl) (by rfl) (by rfl)) SE.int (fun _ _ => (by rfl))) SE.int) (SE.mul (SE.v 2 (by rfl) (by rfl) (by rfl) (by rfl)) SE.int)) (SE.ix (SE.v 0 (by rfl) (by rfl) (by rfl) (by rfl)) SE.int (fun _ _ => (by rfl)))) (by rfl)) SE.int) (SM.sub (j := 0) (by rfl) (vis_of (by rfl)) (by rfl) (by rfl) SE.int (fun _ => (by rfl))) (by rfl) (by rfl) (by rfl))))))) SSs.nil)
      (SSs.cons (SS.ite (ST.cmp (SE.ix (SE.v 0 (by rfl) (by rfl) (by rfl) (by rfl)) SE.int (fun _ _ => (by rfl))) SE.int (cmp_gt) (by rfl)) (SSs.cons (SS.st (i := 3) sc__law_draw.nd (by rfl) (by rfl) (SE.mod (SE.int1 (by rfl) m_int (SE.ix (SE.v 0 (by rfl) (by rfl) (by rfl) (by rfl)) SE.int (fun _ _ => (by rfl))) (by rfl)) (SE.v 1 (by rfl) (by rfl) (by rfl) (by rfl))) (by rfl) (by rfl))
      (SSs.cons (SS.asgM (SE.div (SE.ix (SE.v 0 (by rfl) (by rfl) (by rfl) (by rfl)) SE.int (fun _ _ => (by rfl))) (SE.v 1 (by rfl) (by rfl) (by rfl) (by rfl))) (SM.sub (j := 0) (by rfl) (vis_of (by rfl)) (by rfl) (by rfl) SE.int (fun _ => (by rfl))) (by rfl) (by rfl) (by rfl))
      (SSs.one (SS.ret (SE.v 3 (by rfl) (by rfl) (by rfl) (by rfl)))))) SSs.nil)
      (SSs.cons (SS.asgM (SE.mod (SE.int1 (by rfl) m_int (SE.add (SE.mul (SE.ix (SE.v 0 (by rfl) (by rfl) (by rfl) (by rfl)) SE.int (fun _ _ => (by rfl))) SE.int) SE.int) (by rfl)) SE.int) (SM.sub (j := 0) (by rfl) (vis_of (by rfl)) (by rfl) (by rfl) SE.int (fun _ => (by rfl))) (by rfl) (by rfl) (by rfl))
      (SSs.cons (SS.st (i := 4) sc__law_draw.nd (by rfl) (by rfl) (SE.mod (SE.int1 (by rfl) m_int (SE.add (SE.mul (SE.ix (SE.v 0 (by rfl) (by rfl) (by rfl) (by rfl)) SE.int (fun _ _ => (by rfl))) (SE.ix (SE.v 0 (by rfl) (by rfl) (by rfl) (by rfl)) SE.int (fun _ _ => (by rfl)))) (SE.ix (SE.v 0 (by rfl) (by rfl) (by rfl) (by rfl)) SE.int (fun _ _ => (by rfl)))) (by rfl)) SE.int) (by rfl) (by rfl))
      (SSs.one (SS.ret (SE.mod (SE.div (SE.v 4 (by rfl) (by rfl) (by rfl) (by rfl)) SE.int) (SE.v 1 (by rfl) (by rfl) (by rfl) (by rfl)))))))))
abbrev s__law_alike : Stmt := topS 15
theorem sc__law_alike : FnScope ["told", "due", "j"] ["told", "due"] (defScope s__law_alike) := ⟨rfl, rfl, rfl, by decide +kernel, rfl, by decide +kernel, by decide +kernel⟩
def d__law_alike (fr : List T → Option L) : DenS := (dSeq (dIfS (dOr (dTru (den1 (gIsi "list") (gVar 1))) (dTru (den1 (gIsi "tuple") (gVar 1)))) (dSeq (dIfS (dOr (dBl (den2 (gB gNe) (den1 (gIsi "list") (gVar 0)) (den1 (gIsi "list") (gVar 1)))) (dBl (den2 (gB gNe) (den1 (gIsi "tuple") (gVar 0)) (den1 (gIsi "tuple") (gVar 1))))) (dRet (gC (.bl false))) dNx)
  (dSeq (dIfS (dBl (den2 (gB gNe) (den1 gLen (gVar 0)) (den1 gLen (gVar 1)))) (dRet (gC (.bl false))) dNx)
  (dRet (den2 (gB gEq) (den1 gLen (compD (iRange1 (dCons (den1 gLen (gVar 1)) dNil)) [2] (gNameT 2) (dNot (dTru (dCallP 2 fr (dCons (den2 gIx (gVar 0) (gVar 2)) (dCons (den2 gIx (gVar 1) (gVar 2)) dNil))))) (gVar 2))) (gC (.int 0)))))) dNx)
  (dSeq (dIfS (dBl (den2 (gB gIs) (gVar 1) (gC .non))) (dRet (den2 (gB gIs) (gVar 0) (gC .non))) dNx)
  (dSeq (dIfS (dTru (den1 (gIsi "bool") (gVar 1))) (dRet (dAndV (den1 (gIsi "bool") (gVar 0)) (den2 (gB gEq) (gVar 0) (gVar 1)))) dNx)
  (dSeq (dIfS (dTru (den1 (gIsi "int") (gVar 1))) (dRet (dAndV (den1 (gIsi "int") (gVar 0)) (dAndV (dNotV (den1 (gIsi "bool") (gVar 0))) (den2 (gB gEq) (gVar 0) (gVar 1))))) dNx)
  (dRet (dAndV (den1 (gIsi "str") (gVar 0)) (den2 (gB gEq) (gVar 0) (gVar 1))))))))
def f__law_alike : Nat → List T → Option L
  | 0 => fun _ => none
  | q + 1 => bodyP 2 3 (d__law_alike (f__law_alike q))
theorem ok__law_alike {fr : List T → Option L} (F : Fun K "_law_alike" "_law_alike" s__law_alike f fd) (hmg : mg "_law_alike" = some (.ref f)) (hb : Binds K fd ["told", "due"] []) (c__law_alike : Fn P w K mg base fa k "_law_alike" 2 (pureF fr)) (m_bool : mg "bool" = none) (m_int : mg "int" = none) (m_isinstance : mg "isinstance" = none) (m_len : mg "len" = none) (m_list : mg "list" = none) (m_range : mg "range" = none) (m_str : mg "str" = none) (m_tuple : mg "tuple" = none) : Fn P w K mg base fa (k + 1) "_law_alike" 2 (pureF (bodyP 2 3 (d__law_alike fr))) :=
  fn_pure (as := []) (d := (d__law_alike fr)) F sc__law_alike hmg hb fun cdv A outer s H E hr => (SSs.cons (SS.ite (SW.test (SW.or (SE.truth (SE.isi (by rfl) m_isinstance (by rfl) m_list (by decide +kernel) (by decide) (by rfl) (SE.v 1 (by rfl) (by rfl) (by rfl) (by rfl)) (by rfl)) (fun _ => (by rfl))) (SW.or1 (SE.truth (SE.isi (by rfl) m_isinstance (by rfl) m_tuple (by decide +kernel) (by decide) (by rfl) (SE.v 1 (by rfl) (by rfl) (by rfl) (by rfl)) (by rfl)) (fun _ => (by rfl)))))) (SSs.cons (SS.ite (SW.test (SW.or (ST.cmp (SE.isi (by rfl) m_isinstance (by rfl) m_list (by decide +kernel) (by decide) (by rfl) (SE.v 0 (by rfl) (by rfl) (by rfl) (by rfl)) (by rfl)) (SE.isi (by rfl) m_isinstance (by rfl) m_list (by decide +kernel) (by decide) (by rfl) (SE.v 1 (by rfl) (by rfl) (by rfl) (by rfl)) (by rfl)) (cmp_ne (room64 hr)) (by rfl)) (SW.or1 (ST.cmp (SE.isi (by rfl) m_isinstance (by rfl) m_tuple (by decide +kernel) (by decide) (by rfl) (SE.v 0 (by rfl) (by rfl) (by rfl) (by rfl)) (by rfl)) (SE.isi (by rfl) m_isinstance (by rfl) m_tuple (by decide +kernel) (by decide) (by rfl) (SE.v 1 (by rfl) (by rfl) (by rfl) (by rfl)) (by rfl)) (cmp_ne (room64 hr)) (by rfl))))) (SSs.one (SS.ret SE.bl)) SSs.nil)
      (SSs.cons (SS.ite (ST.cmp (SE.len (by rfl) m_len (SE.v 0 (by rfl) (by rfl) (by rfl) (by rfl)) (by rfl)) (SE.len (by rfl) m_len (SE.v 1 (by rfl) (by rfl) (by rfl) (by rfl)) (by rfl)) (cmp_ne (room64 hr)) (by rfl)) (SSs.one (SS.ret SE.bl)) SSs.nil)
      (SSs.one (SS.ret (SE.cmp (SE.len (by rfl) m_len (SE.lc (by rfl) (by rfl) sc__law_alike.nd (SI.range1 (by rfl) m_range (SA.cons (SE.len (by rfl) m_len (SE.v 1 (by rfl) (by rfl) (by rfl) (by rfl)) (by rfl)) SA.nil (by rfl)) (by rfl)) (blkOk_by (own := [("j", 2)]) (N := ["told", "due", "j"]) (sc := defScope s__law_alike) (by decide +kernel)) (by decide) (fun _ _ _ _ _ => (SG.n (i := 2) sc__law_alike.nd (by rfl) (by rfl) (by rfl))) (fun _ _ _ _ _ => (STs.one (ST.not (SE.truth (SE.callP c__law_alike hr (by rfl) (SA.cons (SE.ix (SE.v 0 (by rfl) (by rfl) (by rfl) (by rfl)) (SE.v 2 (by rfl) (by rfl) (by rfl) (by rfl)) (fun _ _ => (by rfl))) (SA.cons (SE.ix (SE.v 1 (by rfl) (by rfl) (by rfl) (by rfl)) (SE.v 2 (by rfl) (by rfl) (by rfl) (by rfl)) (fun _ _ => (by rfl))) SA.nil (by rfl)) (by rfl)) (by rfl) (by rfl) (by rfl)) (fun _ => (by rfl)))))) (fun _ _ _ _ _ => (SE.v 2 (by rfl) (by rfl) (by rfl) (by rfl))) (fun _ => (by rfl))) (by rfl)) SE.int (cmp_eq (room64 hr)) (by rfl)))))) SSs.nil)
      (SSs.cons (SS.ite (ST.cmp (SE.v 1 (by rfl) (by rfl) (by rfl) (by rfl)) SE.non (cmp_is) (by rfl)) (SSs.one (SS.ret (SE.cmp (SE.v 0 (by rfl) (by rfl) (by rfl) (by rfl)) SE.non (cmp_is) (by rfl)))) SSs.nil)
      (SSs.cons (SS.ite (SE.truth (SE.isi (by rfl) m_isinstance (by rfl) m_bool (by decide +kernel) (by decide) (by rfl) (SE.v 1 (by rfl) (by rfl) (by rfl) (by rfl)) (by rfl)) (fun _ => (by rfl))) (SSs.one (SS.ret (SE.andV (SE.isi (by rfl) m_isinstance (by rfl) m_bool (by decide +kernel) (by decide) (by rfl) (SE.v 0 (by rfl) (by rfl) (by rfl) (by rfl)) (by rfl)) (SE.one (SE.cmp (SE.v 0 (by rfl) (by rfl) (by rfl) (by rfl)) (SE.v 1 (by rfl) (by rfl) (by rfl) (by rfl)) (cmp_eq (room64 hr)) (by rfl)))))) SSs.nil)
      (SSs.cons (SS.ite (SE.truth (SE.isi (by rfl) m_isinstance (by rfl) m_int (by decide +kernel) (by decide) (by rfl) (SE.v 1 (by rfl) (by rfl) (by rfl) (by rfl)) (by rfl)) (fun _ => (by rfl))) (SSs.one (SS.ret (SE.andV (SE.isi (by rfl) m_isinstance (by rfl) m_int (by decide +kernel) (by decide) (by rfl) (SE.v 0 (by rfl) (by rfl) (by rfl) (by rfl)) (by rfl)) (SE.andV (SE.notV (SE.isi (by rfl) m_isinstance (by rfl) m_bool (by decide +kernel) (by decide) (by rfl) (SE.v 0 (by rfl) (by rfl) (by rfl) (by rfl)) (by rfl))) (SE.one (SE.cmp (SE.v 0 (by rfl) (by rfl) (by rfl) (by rfl)) (SE.v 1 (by rfl) (by rfl) (by rfl) (by rfl)) (cmp_eq (room64 hr)) (by rfl))))))) SSs.nil)
      (SSs.one (SS.ret (SE.andV (SE.isi (by rfl) m_isinstance (by rfl) m_str (by decide +kernel) (by decide) (by rfl) (SE.v 0 (by rfl) (by rfl) (by rfl) (by rfl)) (by rfl)) (SE.one (SE.cmp (SE.v 0 (by rfl) (by rfl) (by rfl) (by rfl)) (SE.v 1 (by rfl) (by rfl) (by rfl) (by rfl)) (cmp_eq (room64 hr)) (by rfl))))))))))
abbrev s__law_agreements : Stmt := topS 16
theorem sc__law_agreements : FnScope ["row", "other", "found", "many", "twice", "s", "i"] ["row", "other"] (defScope s__law_agreements) := ⟨rfl, rfl, rfl, by decide +kernel, rfl, by decide +kernel, by decide +kernel⟩
def d__law_agreements : DenS := (dSeq (dSet 2 (dLst dNil))
  (dSeq (dSet 3 (den1 gLen (gVar 0)))
  (dSeq (dSet 4 (den2 gAdd (gVar 1) (gVar 1)))
  (dSeq (dFor [5] (iRange1 (dCons (gVar 3) dNil)) (gNameT 5) (dDrop (dMeth 2 fAppend (dCons (den1 gLen (compD (iRange1 (dCons (gVar 3) dNil)) [6] (gNameT 6) (dBl (den2 (gB gEq) (den2 gIx (gVar 0) (gVar 6)) (den2 gIx (gVar 4) (den2 gAdd (gVar 6) (gVar 5))))) (gVar 6))) dNil))))
  (dRet (gVar 2))))))
def f__law_agreements : List T → Option L := bodyP 2 7 d__law_agreements
theorem ok__law_agreements (F : Fun K "_law_agreements" "_law_agreements" s__law_agreements f fd) (hmg : mg "_law_agreements" = some (.ref f)) (hb : Binds K fd ["row", "other"] []) (m_len : mg "len" = none) (m_range : mg "range" = none) : Fn P w K mg base fa (k + 1) "_law_agreements" 2 (pureF f__law_agreements) :=
  fn_pure (as := [2, 3, 4, 5]) (d := d__law_agreements) F sc__law_agreements hmg hb fun cdv A outer s H E hr => (SSs.cons (SS.st (i := 2) sc__law_agreements.nd (by rfl) (by rfl) (SE.lst SA.nil) (by rfl) (by rfl))
      (SSs.cons (SS.st (i := 3) sc__law_agreements.nd (by rfl) (by rfl) (SE.len (by rfl) m_len (SE.v 0 (by rfl) (by rfl) (by rfl) (by rfl)) (by rfl)) (by rfl) (by rfl))
      (SSs.cons (SS.st (i := 4) sc__law_agreements.nd (by rfl) (by rfl) (SE.add (SE.v 1 (by rfl) (by rfl) (by rfl) (by rfl)) (SE.v 1 (by rfl) (by rfl) (by rfl) (by rfl))) (by rfl) (by rfl))
      (SSs.cons (SS.for PassesOwn.never (by rfl) (SI.range1 (by rfl) m_range (SA.cons (SE.v 3 (by rfl) (by rfl) (by rfl) (by rfl)) SA.nil (by rfl)) (by rfl)) (SG.n (i := 5) sc__law_agreements.nd (by rfl) (by rfl) (by rfl)) (SSs.one (SS.expr (SE.meth (i := 2) PySem.F.slot_list_append PySem.F.type_list_append mt_append me_append (by rfl) (vis_of (by rfl)) (by rfl) (by rfl) (SA.cons (SE.len (by rfl) m_len (SE.lc (by rfl) (by rfl) sc__law_agreements.nd (SI.range1 (by rfl) m_range (SA.cons (SE.v 3 (by rfl) (by rfl) (by rfl) (by rfl)) SA.nil (by rfl)) (by rfl)) (blkOk_by (own := [("i", 6)]) (N := ["row", "other", "found", "many", "twice", "s", "i"]) (sc := defScope s__law_agreements) (by decide +kernel)) (by decide) (fun _ _ _ _ _ => (SG.n (i := 6) sc__law_agreements.nd (by rfl) (by rfl) (by rfl))) (fun _ _ _ _ _ => (STs.one (ST.cmp (SE.ix (SE.v 0 (by rfl) (by rfl) (by rfl) (by rfl)) (SE.v 6 (by rfl) (by rfl) (by rfl) (by rfl)) (fun _ _ => (by rfl))) (SE.ix (SE.v 4 (by rfl) (by rfl) (by rfl) (by rfl)) (SE.add (SE.v 6 (by rfl) (by rfl) (by rfl) (by rfl)) (SE.v 5 (by rfl) (by rfl) (by rfl) (by rfl))) (fun _ _ => (by rfl))) (cmp_eq (room64 hr)) (by rfl)))) (fun _ _ _ _ _ => (SE.v 6 (by rfl) (by rfl) (by rfl) (by rfl))) (fun _ => (by rfl))) (by rfl)) SA.nil (by rfl)) (by rfl) (by rfl) (by rfl) (by rfl)) (by rfl))) (fun _ => (by rfl)))
      (SSs.one (SS.ret (SE.v 2 (by rfl) (by rfl) (by rfl) (by rfl))))))))
abbrev s__law_runs : Stmt := topS 17
theorem sc__law_runs : FnScope ["row", "many", "begun", "i", "counts", "at", "length"] ["row"] (defScope s__law_runs) := ⟨rfl, rfl, rfl, by decide +kernel, rfl, by decide +kernel, by decide +kernel⟩
def d__law_runs : DenS := (dSeq (dSet 1 (den1 gLen (gVar 0)))
  (dSeq (dSet 2 (compD (iRange1 (dCons (gVar 1) dNil)) [3] (gNameT 3) (dBl (den2 (gB gNe) (den2 gIx (gVar 0) (gVar 3)) (den2 gIx (gVar 0) (den2 gSub (gVar 3) (gC (.int 1)))))) (gVar 3)))
  (dSeq (dSet 4 dDicK)
  (dSeq (dFor [5, 6] (iRange1 (dCons (den1 gLen (gVar 2)) dNil)) (gNameT 5) (dSeq (dSet 6 (den2 gAdd (den2 gMod (den1 gInt (den2 gSub (den2 gSub (den2 gIx (gVar 2) (gVar 5)) (den2 gIx (gVar 2) (den2 gSub (gVar 5) (gC (.int 1))))) (gC (.int 1)))) (gVar 1)) (gC (.int 1))))
  (dDput 4 (gVar 6) (den2 gAdd (dDget2 (gVar 4) (gVar 6) (gC (.int 0))) (gC (.int 1))))))
  (dRet (den1 gSort (dLock 4 (compD (iKeysT (gVar 4)) [6] (gNameT 6) dYes (dTup (dCons (gVar 6) (dCons (den2 gDget (gVar 4) (gVar 6)) dNil)))))))))))
def f__law_runs : List T → Option L := bodyP 1 7 d__law_runs
theorem ok__law_runs (F : Fun K "_law_runs" "_law_runs" s__law_runs f fd) (hmg : mg "_law_runs" = some (.ref f)) (hb : Binds K fd ["row"] []) (m_int : mg "int" = none) (m_len : mg "len" = none) (m_range : mg "range" = none) (m_sorted : mg "sorted" = none) : Fn P w K mg base fa (k + 1) "_law_runs" 1 (pureF f__law_runs) :=
  fn_pure (as := [1, 2, 4, 5, 6]) (d := d__law_runs) F sc__law_runs hmg hb fun cdv A outer s H E hr => (SSs.cons (SS.st (i := 1) sc__law_runs.nd (by rfl) (by rfl) (SE.len (by rfl) m_len (SE.v 0 (by rfl) (by rfl) (by rfl) (by rfl)) (by rfl)) (by rfl) (by rfl))
      (SSs.cons (SS.lc (i := 2) (by rfl) (by rfl) sc__law_runs.nd (by rfl) (by rfl) (sw_true (by rfl) (by rfl) (by rfl) (by decide +kernel)) (SI.range1 (by rfl) m_range (SA.cons (SE.v 1 (by rfl) (by rfl) (by rfl) (by rfl)) SA.nil (by rfl)) (by rfl)) (blkOk_by (own := [("i", 3)]) (N := ["row", "many", "begun", "i", "counts", "at", "length"]) (sc := defScope s__law_runs) (by decide +kernel)) (by decide) (fun _ _ _ _ _ => (SG.n (i := 3) sc__law_runs.nd (by rfl) (by rfl) (by rfl))) (fun _ _ _ _ _ => (STs.one (ST.cmp (SE.ix (SE.v 0 (by rfl) (by rfl) (by rfl) (by rfl)) (SE.v 3 (by rfl) (by rfl) (by rfl) (by rfl)) (fun _ _ => (by rfl))) (SE.ix (SE.v 0 (by rfl) (by rfl) (by rfl) (by rfl)) (SE.sub (SE.v 3 (by rfl) (by rfl) (by rfl) (by rfl)) SE.int) (fun _ _ => (by rfl))) (cmp_ne (room64 hr)) (by rfl)))) (fun _ _ _ _ _ => (SE.v 3 (by rfl) (by rfl) (by rfl) (by rfl))) (fun _ => (by rfl)))
      (SSs.cons (SS.st (i := 4) sc__law_runs.nd (by rfl) (by rfl) SE.dicK (by rfl) (by rfl))
      (SSs.cons (SS.for PassesOwn.never (by rfl) (SI.range1 (by rfl) m_range (SA.cons (SE.len (by rfl) m_len (SE.v 2 (by rfl) (by rfl) (by rfl) (by rfl)) (by rfl)) SA.nil (by rfl)) (by rfl)) (SG.n (i := 5) sc__law_runs.nd (by rfl) (by rfl) (by rfl)) (SSs.cons (SS.st (i := 6) sc__law_runs.nd (by rfl) (by rfl) (SE.add (SE.mod (SE.int1 (by rfl) m_int (SE.sub (SE.sub (SE.ix (SE.v 2 (by rfl) (by rfl) (by rfl) (by rfl)) (SE.v 5 (by rfl) (by rfl) (by rfl) (by rfl)) (fun _ _ => (by rfl))) (SE.ix (SE.v 2 (by rfl) (by rfl) (by rfl) (by rfl)) (SE.sub (SE.v 5 (by rfl) (by rfl) (by rfl) (by rfl)) SE.int) (fun _ _ => (by rfl)))) SE.int) (by rfl)) (SE.v 1 (by rfl) (by rfl) (by rfl) (by rfl))) SE.int) (by rfl) (by rfl))
      (SSs.one (SS.dput (i := 4) (room1 hr) (by rfl) (vis_of (by rfl)) (by rfl) (by rfl) (SE.v 6 (by rfl) (by rfl) (by rfl) (by rfl)) (SE.add (SE.dget2 (room1 hr) (SE.v 4 (by rfl) (by rfl) (by rfl) (by rfl)) (SE.v 6 (by rfl) (by rfl) (by rfl) (by rfl)) SE.int ⟨(by rfl), (by rfl), (by rfl), (by rfl)⟩) SE.int) (by rfl)))) (fun _ => (by rfl)))
      (SSs.one (SS.ret (SE.sorted (by rfl) m_sorted (SE.lock 4 (SE.lc (by rfl) (by rfl) sc__law_runs.nd (SI.keys (SE.v 4 (by rfl) (by rfl) (by rfl) (by rfl))) (blkOk_by (own := [("length", 6)]) (N := ["row", "many", "begun", "i", "counts", "at", "length"]) (sc := defScope s__law_runs) (by decide +kernel)) (by decide) (fun _ _ _ _ _ => (SG.n (i := 6) sc__law_runs.nd (by rfl) (by rfl) (by rfl))) (fun _ _ _ _ _ => STs.nil) (fun _ _ _ _ _ => (SE.tup (SA.cons (SE.v 6 (by rfl) (by rfl) (by rfl) (by rfl)) (SA.cons (SE.dget (room1 hr) (SE.v 4 (by rfl) (by rfl) (by rfl) (by rfl)) (SE.v 6 (by rfl) (by rfl) (by rfl) (by rfl)) (fun _ _ => (by rfl))) SA.nil (by rfl)) (by rfl)))) (fun _ => (by rfl)))) (by rfl))))))))
abbrev s__law_thinned : Stmt := topS 18
theorem sc__law_thinned : FnScope ["row", "step", "found", "at", "turn"] ["row", "step"] (defScope s__law_thinned) := ⟨rfl, rfl, rfl, by decide +kernel, rfl, by decide +kernel, by decide +kernel⟩
def d__law_thinned : DenS := (dSeq (dSet 2 (dLst dNil))
  (dSeq (dSet 3 (gC (.int 0)))
  (dSeq (dFor [4, 3] (iRange1 (dCons (den1 gLen (gVar 0)) dNil)) (gNameT 4) (dSeq (dDrop (dMeth 2 fAppend (dCons (den2 gIx (gVar 0) (gVar 3)) dNil)))
  (dSeq (dSet 3 (den2 gMod (den1 gInt (den2 gAdd (gVar 3) (gVar 1))) (den1 gLen (gVar 0))))
  (dIfS (dBl (den2 (gB gEq) (gVar 3) (gC (.int 0)))) dBrk dNx))))
  (dRet (gVar 2)))))
def f__law_thinned : List T → Option L := bodyP 2 5 d__law_thinned
theorem ok__law_thinned (F : Fun K "_law_thinned" "_law_thinned" s__law_thinned f fd) (hmg : mg "_law_thinned" = some (.ref f)) (hb : Binds K fd ["row", "step"] []) (m_int : mg "int" = none) (m_len : mg "len" = none) (m_range : mg "range" = none) : Fn P w K mg base fa (k + 1) "_law_thinned" 2 (pureF f__law_thinned) :=
  fn_pure (as := [2, 3, 4, 3]) (d := d__law_thinned) F sc__law_thinned hmg hb fun cdv A outer s H E hr => (SSs.cons (SS.st (i := 2) sc__law_thinned.nd (by rfl) (by rfl) (SE.lst SA.nil) (by rfl) (by rfl))
      (SSs.cons (SS.st (i := 3) sc__law_thinned.nd (by rfl) (by rfl) SE.int (by rfl) (by rfl))
      (SSs.cons (SS.for PassesOwn.never (by rfl) (SI.range1 (by rfl) m_range (SA.cons (SE.len (by rfl) m_len (SE.v 0 (by rfl) (by rfl) (by rfl) (by rfl)) (by rfl)) SA.nil (by rfl)) (by rfl)) (SG.n (i := 4) sc__law_thinned.nd (by rfl) (by rfl) (by rfl)) (SSs.cons (SS.expr (SE.meth (i := 2) PySem.F.slot_list_append PySem.F.type_list_append mt_append me_append (by rfl) (vis_of (by rfl)) (by rfl) (by rfl) (SA.cons (SE.ix (SE.v 0 (by rfl) (by rfl) (by rfl) (by rfl)) (SE.v 3 (by rfl) (by rfl) (by rfl) (by rfl)) (fun _ _ => (by rfl))) SA.nil (by rfl)) (by rfl) (by rfl) (by rfl) (by rfl)) (by rfl))
      (SSs.cons (SS.st (i := 3) sc__law_thinned.nd (by rfl) (by rfl) (SE.mod (SE.int1 (by rfl) m_int (SE.add (SE.v 3 (by rfl) (by rfl) (by rfl) (by rfl)) (SE.v 1 (by rfl) (by rfl) (by rfl) (by rfl))) (by rfl)) (SE.len (by rfl) m_len (SE.v 0 (by rfl) (by rfl) (by rfl) (by rfl)) (by rfl))) (by rfl) (by rfl))
      (SSs.one (SS.ite (ST.cmp (SE.v 3 (by rfl) (by rfl) (by rfl) (by rfl)) SE.int (cmp_eq (room64 hr)) (by rfl)) (SSs.one SS.brk) SSs.nil)))) (fun _ => (by rfl)))
      (SSs.one (SS.ret (SE.v 2 (by rfl) (by rfl) (by rfl) (by rfl)))))))
abbrev s__law_register : Stmt := topS 19
theorem sc__law_register : FnScope ["p", "taps", "begun", "many", "row", "t", "i"] ["p", "taps", "begun", "many"] (defScope s__law_register) := ⟨rfl, rfl, rfl, by decide +kernel, rfl, by decide +kernel, by decide +kernel⟩
def d__law_register : DenS := (dSeq (dSet 4 (den1 gList (gVar 2)))
  (dSeq (dFor [5] (iRange1 (dCons (den2 gSub (gVar 3) (den1 gLen (gVar 2))) dNil)) (gNameT 5) (dDrop (dMeth 4 fAppend (dCons (den2 gMod (den1 gInt (den1 gSum (compD (iRange1 (dCons (den1 gLen (gVar 1)) dNil)) [6] (gNameT 6) dYes (den2 gMul (den2 gIx (gVar 1) (gVar 6)) (den2 gIx (gVar 4) (den2 gSub (den1 gNeg (gC (.int 1))) (gVar 6))))))) (gVar 0)) dNil))))
  (dRet (gVar 4))))
def f__law_register : List T → Option L := bodyP 4 7 d__law_register
theorem ok__law_register (F : Fun K "_law_register" "_law_register" s__law_register f fd) (hmg : mg "_law_register" = some (.ref f)) (hb : Binds K fd ["p", "taps", "begun", "many"] []) (m_int : mg "int" = none) (m_len : mg "len" = none) (m_list : mg "list" = none) (m_range : mg "range" = none) (m_sum : mg "sum" = none) : Fn P w K mg base fa (k + 1) "_law_register" 4 (pureF f__law_register) :=
  fn_pure (as := [4, 5]) (d := d__law_register) F sc__law_register hmg hb fun cdv A outer s H E hr => (SSs.cons (SS.st (i := 4) sc__law_register.nd (by rfl) (by rfl) (SE.list1 (by rfl) m_list (SE.v 2 (by rfl) (by rfl) (by rfl) (by rfl)) (by rfl)) (by rfl) (by rfl))
      (SSs.cons (SS.for PassesOwn.never (by rfl) (SI.range1 (by rfl) m_range (SA.cons (SE.sub (SE.v 3 (by rfl) (by rfl) (by rfl) (by rfl)) (SE.len (by rfl) m_len (SE.v 2 (by rfl) (by rfl) (by rfl) (by rfl)) (by rfl))) SA.nil (by rfl)) (by rfl)) (SG.n (i := 5) sc__law_register.nd (by rfl) (by rfl) (by rfl)) (SSs.one (SS.expr (SE.meth (i := 4) PySem.F.slot_list_append PySem.F.type_list_append mt_append me_append (by rfl) (vis_of (by rfl)) (by rfl) (by rfl) (SA.cons (SE.mod (SE.int1 (by rfl) m_int (SE.sum (by rfl) (by rfl) m_sum (SE.lc (by rfl) (by rfl) sc__law_register.nd (SI.range1 (by rfl) m_range (SA.cons (SE.len (by rfl) m_len (SE.v 1 (by rfl) (by rfl) (by rfl) (by rfl)) (by rfl)) SA.nil (by rfl)) (by rfl)) (blkOk_by (own := [("i", 6)]) (N := ["p", "taps", "begun", "many", "row", "t", "i"]) (sc := defScope s__law_register) (by decide +kernel)) (by decide) (fun _ _ _ _ _ => (SG.n (i := 6) sc__law_register.nd (by rfl) (by rfl) (by rfl))) (fun _ _ _ _ _ => STs.nil) (fun _ _ _ _ _ => (SE.mul (SE.ix (SE.v 1 (by rfl) (by rfl) (by rfl) (by rfl)) (SE.v 6 (by rfl) (by rfl) (by rfl) (by rfl)) (fun _ _ => (by rfl))) (SE.ix (SE.v 4 (by rfl) (by rfl) (by rfl) (by rfl)) (SE.sub (SE.neg SE.int) (SE.v 6 (by rfl) (by rfl) (by rfl) (by rfl))) (fun _ _ => (by rfl))))) (fun _ => (by rfl))) (by rfl)) (by rfl)) (SE.v 0 (by rfl) (by rfl) (by rfl) (by rfl))) SA.nil (by rfl)) (by rfl) (by rfl) (by rfl) (by rfl)) (by rfl))) (fun _ => (by rfl)))
      (SSs.one (SS.ret (SE.v 4 (by rfl) (by rfl) (by rfl) (by rfl))))))
abbrev s__law_shift : Stmt := topS 20
theorem sc__law_shift : FnScope ["p", "taps", "begun", "ticks", "size", "row", "due", "t", "shift"] ["p", "taps", "begun", "ticks"] (defScope s__law_shift) := ⟨rfl, rfl, rfl, by decide +kernel, rfl, by decide +kernel, by decide +kernel⟩
def d__law_shift : DenS := (dSeq (dSet 4 (den1 gLen (gVar 1)))
  (dSeq (dSet 5 (dCallP 4 f__law_register (dCons (gVar 0) (dCons (gVar 1) (dCons (gVar 2) (dCons (den2 gAdd (den2 gMul (gC (.int 2)) (gC (.int 250))) (den2 gMul (gC (.int 2)) (gVar 4))) dNil))))))
  (dSeq (dSet 6 (compD (iRange1 (dCons (gVar 4) dNil)) [7] (gNameT 7) dYes (den2 gMod (den1 gInt (den2 gAdd (den2 gIx (gVar 5) (gVar 7)) (den2 gIx (gVar 5) (den2 gAdd (gVar 7) (gVar 3))))) (gVar 0))))
  (dSeq (dFor [8] (iRange1 (dCons (gC (.int 250)) dNil)) (gNameT 8) (dIfS (dBl (den2 (gB gEq) (dSl (gVar 5) (dSome (gVar 8)) (dSome (den2 gAdd (gVar 8) (gVar 4)))) (gVar 6))) (dRet (gVar 8)) dNx))
  (dRet (gC .non))))))
def f__law_shift : List T → Option L := bodyP 4 9 d__law_shift
theorem ok__law_shift (F : Fun K "_law_shift" "_law_shift" s__law_shift f fd) (hmg : mg "_law_shift" = some (.ref f)) (hb : Binds K fd ["p", "taps", "begun", "ticks"] []) (c__law_register : Fn P w K mg base fa k "_law_register" 4 (pureF f__law_register)) (m_int : mg "int" = none) (m_len : mg "len" = none) (m_range : mg "range" = none) : Fn P w K mg base fa (k + 1) "_law_shift" 4 (pureF f__law_shift) :=
  fn_pure (as := [4, 5, 6, 8]) (d := d__law_shift) F sc__law_shift hmg hb fun cdv A outer s H E hr => (SSs.cons (SS.st (i := 4) sc__law_shift.nd (by rfl) (by rfl) (SE.len (by rfl) m_len (SE.v 1 (by rfl) (by rfl) (by rfl) (by rfl)) (by rfl)) (by rfl) (by rfl))
      (SSs.cons (SS.st (i := 5) sc__law_shift.nd (by rfl) (by rfl) (SE.callP c__law_register hr (by rfl) (SA.cons (SE.v 0 (by rfl) (by rfl) (by rfl) (by rfl)) (SA.cons (SE.v 1 (by rfl) (by rfl) (by rfl) (by rfl)) (SA.cons (SE.v 2 (by rfl) (by rfl) (by rfl) (by rfl)) (SA.cons (SE.add (SE.mul SE.int SE.int) (SE.mul SE.int (SE.v 4 (by rfl) (by rfl) (by rfl) (by rfl)))) SA.nil (by rfl)) (by rfl)) (by rfl)) (by rfl)) (by rfl) (by rfl) (by rfl)) (by rfl) (by rfl))
      (SSs.cons (SS.lc (i := 6) (by rfl) (by rfl) sc__law_shift.nd (by rfl) (by rfl) (sw_true (by rfl) (by rfl) (by rfl) (by decide +kernel)) (SI.range1 (by rfl) m_range (SA.cons (SE.v 4 (by rfl) (by rfl) (by rfl) (by rfl)) SA.nil (by rfl)) (by rfl)) (blkOk_by (own := [("t", 7)]) (N := ["p", "taps", "begun", "ticks", "size", "row", "due", "t", "shift"]) (sc := defScope s__law_shift) (by decide +kernel)) (by decide) (fun _ _ _ _ _ => (SG.n (i := 7) sc__law_shift.nd (by rfl) (by rfl) (by rfl))) (fun _ _ _ _ _ => STs.nil) (fun _ _ _ _ _ => (SE.mod (SE.int1 (by rfl) m_int (SE.add (SE.ix (SE.v 5 (by rfl) (by rfl) (by rfl) (by rfl)) (SE.v 7 (by rfl) (by rfl) (by rfl) (by rfl)) (fun _ _ => (by rfl))) (SE.ix (SE.v 5 (by rfl) (by rfl) (by rfl) (by rfl)) (SE.add (SE.v 7 (by rfl) (by rfl) (by rfl) (by rfl)) (SE.v 3 (by rfl) (by rfl) (by rfl) (by rfl))) (fun _ _ => (by rfl)))) (by rfl)) (SE.v 0 (by rfl) (by rfl) (by rfl) (by rfl)))) (fun _ => (by rfl)))
      (SSs.cons (SS.for PassesOwn.never (by rfl) (SI.range1 (by rfl) m_range (SA.cons SE.int SA.nil (by rfl)) (by rfl)) (SG.n (i := 8) sc__law_shift.nd (by rfl) (by rfl) (by rfl)) (SSs.one (SS.ite (ST.cmp (SE.sl (SE.v 5 (by rfl) (by rfl) (by rfl) (by rfl)) (SO.some (SE.v 8 (by rfl) (by rfl) (by rfl) (by rfl))) (SO.some (SE.add (SE.v 8 (by rfl) (by rfl) (by rfl) (by rfl)) (SE.v 4 (by rfl) (by rfl) (by rfl) (by rfl))))) (SE.v 6 (by rfl) (by rfl) (by rfl) (by rfl)) (cmp_eq (room64 hr)) (by rfl)) (SSs.one (SS.ret (SE.v 8 (by rfl) (by rfl) (by rfl) (by rfl)))) SSs.nil)) (fun _ => (by rfl)))
      (SSs.one (SS.ret SE.non))))))
abbrev s__law_shifted : Stmt := topS 21
theorem sc__law_shifted : FnScope ["feed", "p", "size", "taps", "j", "begun", "ticks", "kept", "many"] ["feed", "p"] (defScope s__law_shifted) := ⟨rfl, rfl, rfl, by decide +kernel, rfl, by decide +kernel, by decide +kernel⟩
def d__law_shifted : DenS := (dSeq (dSet 2 (den2 gAdd (gC (.int 1)) (dCallF 2 0 g__law_draw (dCons (den2 gIx (dLst (dCons (gC (.int 4)) (dCons (gC (.int 4)) (dCons (gC (.int 3)) (dCons (gC (.int 2)) dNil))))) (dVm vIndex (dLst (dCons (gC (.int 2)) (dCons (gC (.int 3)) (dCons (gC (.int 5)) (dCons (gC (.int 7)) dNil))))) (gVar 1))) dNil))))
  (dSeq (dSet 3 (den2 gAdd (compD (iRange1 (dCons (den2 gSub (gVar 2) (gC (.int 1))) dNil)) [4] (gNameT 4) dYes (dCallF 2 0 g__law_draw (dCons (gVar 1) dNil))) (dLst (dCons (den2 gAdd (gC (.int 1)) (dCallF 2 0 g__law_draw (dCons (den2 gSub (gVar 1) (gC (.int 1))) dNil))) dNil))))
  (dSeq (dSet 5 (compD (iRange1 (dCons (gVar 2) dNil)) [4] (gNameT 4) dYes (dCallF 2 0 g__law_draw (dCons (gVar 1) dNil))))
  (dSeq (dSet 6 (dCallF 2 0 g__law_draw (dCons (den2 gAdd (gC (.int 1)) (den2 gIx (dLst (dCons (gC (.int 12)) (dCons (gC (.int 251)) dNil))) (den1 gInt (den2 (gB gEq) (dCallF 2 0 g__law_draw (dCons (gC (.int 4)) dNil)) (gC (.int 1)))))) dNil)))
  (dSeq (dIfS (dBl (den2 (gB gEq) (gVar 6) (gC (.int 251)))) (dSet 6 (gC (.int 250))) dNx)
  (dSeq (dSet 7 (dLst (dCons (den1 gList (gVar 3)) (dCons (den1 gList (gVar 5)) dNil))))
  (dSeq (dIfS (dNot (dTru (dCallP 2 (f__law_alike 5) (dCons (dBor (dCallP 4 f_shift_and_add (dCons (gVar 1) (dCons (gVar 3) (dCons (gVar 5) (dCons (gVar 6) dNil)))))) (dCons (dBor (dCallP 4 f__law_shift (dCons (gVar 1) (dCons (gVar 3) (dCons (gVar 5) (dCons (gVar 6) dNil)))))) dNil))))) (dRet (gC (.bl false))) dNx)
  (dSeq (dSet 8 (den2 gAdd (gVar 2) (dCallF 2 0 g__law_draw (dCons (gC (.int 60)) dNil))))
  (dRet (dAndV (dBor (den2 (gB gEq) (gVar 7) (dLst (dCons (gVar 3) (dCons (gVar 5) dNil))))) (dCallP 2 (f__law_alike 5) (dCons (dBor (dCallP 4 f_register_row (dCons (gVar 1) (dCons (gVar 3) (dCons (gVar 5) (dCons (gVar 8) dNil)))))) (dCons (dBor (dCallP 4 f__law_register (dCons (gVar 1) (dCons (gVar 3) (dCons (gVar 5) (dCons (gVar 8) dNil)))))) dNil)))))))))))))
def g__law_shifted : List T → List T → Option (L × List T) := bodyF 2 9 [2, 3, 5, 6, 6, 7, 8] d__law_shifted
theorem ok__law_shifted (F : Fun K "_law_shifted" "_law_shifted" s__law_shifted f fd) (hmg : mg "_law_shifted" = some (.ref f)) (hb : Binds K fd ["feed", "p"] []) (c__law_alike : Fn P w K mg base fa k "_law_alike" 2 (pureF (f__law_alike 5))) (c__law_draw : Fn P w K mg base fa k "_law_draw" 2 (feedF g__law_draw)) (c__law_register : Fn P w K mg base fa k "_law_register" 4 (pureF f__law_register)) (c__law_shift : Fn P w K mg base fa k "_law_shift" 4 (pureF f__law_shift)) (c_register_row : Fn P w K mg base fa k "register_row" 4 (pureF f_register_row)) (c_shift_and_add : Fn P w K mg base fa k "shift_and_add" 4 (pureF f_shift_and_add)) (m_int : mg "int" = none) (m_list : mg "list" = none) (m_range : mg "range" = none) : Fn P w K mg base fa (k + 1) "_law_shifted" 2 (feedF g__law_shifted) :=
  fn_feed (as := [2, 3, 5, 6, 6, 7, 8]) (d := d__law_shifted) F sc__law_shifted hmg hb fun cdv A outer s H E hr => (SSs.cons (SS.st (i := 2) sc__law_shifted.nd (by rfl) (by rfl) (SE.add SE.int (SE.callF c__law_draw hr (by rfl) (i := 0) (by rfl) (vis_of (by rfl)) (by rfl) (by rfl) (SA.cons (SE.ix (SE.lst (SA.cons SE.int (SA.cons SE.int (SA.cons SE.int (SA.cons SE.int SA.nil (by rfl)) (by rfl)) (by rfl)) (by rfl))) (SE.vm PySem.F.slot_list_index PySem.F.type_list_index (mt_indexD (room65 hr)) vm_index (SE.lst (SA.cons SE.int (SA.cons SE.int (SA.cons SE.int (SA.cons SE.int SA.nil (by rfl)) (by rfl)) (by rfl)) (by rfl))) (SE.v 1 (by rfl) (by rfl) (by rfl) (by rfl)) (by rfl) (by rfl) (by rfl) (by rfl)) (fun _ _ => (by rfl))) SA.nil (by rfl)) (by rfl) (by rfl) (by rfl))) (by rfl) (by rfl))
      (SSs.cons (SS.st (i := 3) sc__law_shifted.nd (by rfl) (by rfl) (SE.add (SE.lc (by rfl) (by rfl) sc__law_shifted.nd (SI.range1 (by rfl) m_range (SA.cons (SE.sub (SE.v 2 (by rfl) (by rfl) (by rfl) (by rfl)) SE.int) SA.nil (by rfl)) (by rfl)) (blkOk_by (own := [("j", 4)]) (N := ["feed", "p", "size", "taps", "j", "begun", "ticks", "kept", "many"]) (sc := defScope s__law_shifted) (by decide +kernel)) (by decide) (fun _ _ _ _ _ => (SG.n (i := 4) sc__law_shifted.nd (by rfl) (by rfl) (by rfl))) (fun _ _ _ _ _ => STs.nil) (fun _ _ _ _ _ => (SE.callF c__law_draw hr (by rfl) (i := 0) (by rfl) (vis_of (by rfl)) (by rfl) (by rfl) (SA.cons (SE.v 1 (by rfl) (by rfl) (by rfl) (by rfl)) SA.nil (by rfl)) (by rfl) (by rfl) (by rfl))) (fun _ => (by rfl))) (SE.lst (SA.cons (SE.add SE.int (SE.callF c__law_draw hr (by rfl) (i := 0) (by rfl) (vis_of (by rfl)) (by rfl) (by rfl) (SA.cons (SE.sub (SE.v 1 (by rfl) (by rfl) (by rfl) (by rfl)) SE.int) SA.nil (by rfl)) (by rfl) (by rfl) (by rfl))) SA.nil (by rfl)))) (by rfl) (by rfl))
      (SSs.cons (SS.lc (i := 5) (by rfl) (by rfl) sc__law_shifted.nd (by rfl) (by rfl) (sw_true (by rfl) (by rfl) (by rfl) (by decide +kernel)) (SI.range1 (by rfl) m_range (SA.cons (SE.v 2 (by rfl) (by rfl) (by rfl) (by rfl)) SA.nil (by rfl)) (by rfl)) (blkOk_by (own := [("j", 4)]) (N := ["feed", "p", "size", "taps", "j", "begun", "ticks", "kept", "many"]) (sc := defScope s__law_shifted) (by decide +kernel)) (by decide) (fun _ _ _ _ _ => (SG.n (i := 4) sc__law_shifted.nd (by rfl) (by rfl) (by rfl))) (fun _ _ _ _ _ => STs.nil) (fun _ _ _ _ _ => (SE.callF c__law_draw hr (by rfl) (i := 0) (by rfl) (vis_of (by rfl)) (by rfl) (by rfl) (SA.cons (SE.v 1 (by rfl) (by rfl) (by rfl) (by rfl)) SA.nil (by rfl)) (by rfl) (by rfl) (by rfl))) (fun _ => (by rfl)))
      (SSs.cons (SS.st (i := 6) sc__law_shifted.nd (by rfl) (by rfl) (SE.callF c__law_draw hr (by rfl) (i := 0) (by rfl) (vis_of (by rfl)) (by rfl) (by rfl) (SA.cons (SE.add SE.int (SE.ix (SE.lst (SA.cons SE.int (SA.cons SE.int SA.nil (by rfl)) (by rfl))) (SE.int1 (by rfl) m_int (SE.cmp (SE.callF c__law_draw hr (by rfl) (i := 0) (by rfl) (vis_of (by rfl)) (by rfl) (by rfl) (SA.cons SE.int SA.nil (by rfl)) (by rfl) (by rfl) (by rfl)) SE.int (cmp_eq (room64 hr)) (by rfl)) (by rfl)) (fun _ _ => (by rfl)))) SA.nil (by rfl)) (by rfl) (by rfl) (by rfl)) (by rfl) (by rfl))
      (SSs.cons (SS.ite (ST.cmp (SE.v 6 (by rfl) (by rfl) (by rfl) (by rfl)) SE.int (cmp_eq (room64 hr)) (by rfl)) (SSs.one (SS.st (i := 6) sc__law_shifted.nd (by rfl) (by rfl) SE.int (by rfl) (by rfl))) SSs.nil)
      (SSs.cons (SS.st (i := 7) sc__law_shifted.nd (by rfl) (by rfl) (SE.lst (SA.cons (SE.list1 (by rfl) m_list (SE.v 3 (by rfl) (by rfl) (by rfl) (by rfl)) (by rfl)) (SA.cons (SE.list1 (by rfl) m_list (SE.v 5 (by rfl) (by rfl) (by rfl) (by rfl)) (by rfl)) SA.nil (by rfl)) (by rfl))) (by rfl) (by rfl))
      (SSs.cons (SS.ite (ST.not (SE.truth (SE.callP c__law_alike hr (by rfl) (SA.cons (SE.bor (SE.callP c_shift_and_add hr (by rfl) (SA.cons (SE.v 1 (by rfl) (by rfl) (by rfl) (by rfl)) (SA.cons (SE.v 3 (by rfl) (by rfl) (by rfl) (by rfl)) (SA.cons (SE.v 5 (by rfl) (by rfl) (by rfl) (by rfl)) (SA.cons (SE.v 6 (by rfl) (by rfl) (by rfl) (by rfl)) SA.nil (by rfl)) (by rfl)) (by rfl)) (by rfl)) (by rfl) (by rfl) (by rfl))) (SA.cons (SE.bor (SE.callP c__law_shift hr (by rfl) (SA.cons (SE.v 1 (by rfl) (by rfl) (by rfl) (by rfl)) (SA.cons (SE.v 3 (by rfl) (by rfl) (by rfl) (by rfl)) (SA.cons (SE.v 5 (by rfl) (by rfl) (by rfl) (by rfl)) (SA.cons (SE.v 6 (by rfl) (by rfl) (by rfl) (by rfl)) SA.nil (by rfl)) (by rfl)) (by rfl)) (by rfl)) (by rfl) (by rfl) (by rfl))) SA.nil (by rfl)) (by rfl)) (by rfl) (by rfl) (by rfl)) (fun _ => (by rfl)))) (SSs.one (SS.ret SE.bl)) SSs.nil)
      (SSs.cons (SS.st (i := 8) sc__law_shifted.nd (by rfl) (by rfl) (SE.add (SE.v 2 (by rfl) (by rfl) (by rfl) (by rfl)) (SE.callF c__law_draw hr (by rfl) (i := 0) (by rfl) (vis_of (by rfl)) (by rfl) (by rfl) (SA.cons SE.int SA.nil (by rfl)) (by rfl) (by rfl) (by rfl))) (by rfl) (by rfl))
      (SSs.one (SS.ret (SE.andV (SE.bor (SE.cmp (SE.v 7 (by rfl) (by rfl) (by rfl) (by rfl)) (SE.lst (SA.cons (SE.v 3 (by rfl) (by rfl) (by rfl) (by rfl)) (SA.cons (SE.v 5 (by rfl) (by rfl) (by rfl) (by rfl)) SA.nil (by rfl)) (by rfl))) (cmp_eq (room64 hr)) (by rfl))) (SE.one (SE.callP c__law_alike hr (by rfl) (SA.cons (SE.bor (SE.callP c_register_row hr (by rfl) (SA.cons (SE.v 1 (by rfl) (by rfl) (by rfl) (by rfl)) (SA.cons (SE.v 3 (by rfl) (by rfl) (by rfl) (by rfl)) (SA.cons (SE.v 5 (by rfl) (by rfl) (by rfl) (by rfl)) (SA.cons (SE.v 8 (by rfl) (by rfl) (by rfl) (by rfl)) SA.nil (by rfl)) (by rfl)) (by rfl)) (by rfl)) (by rfl) (by rfl) (by rfl))) (SA.cons (SE.bor (SE.callP c__law_register hr (by rfl) (SA.cons (SE.v 1 (by rfl) (by rfl) (by rfl) (by rfl)) (SA.cons (SE.v 3 (by rfl) (by rfl) (by rfl) (by rfl)) (SA.cons (SE.v 5 (by rfl) (by rfl) (by rfl) (by rfl)) (SA.cons (SE.v 8 (by rfl) (by rfl) (by rfl) (by rfl)) SA.nil (by rfl)) (by rfl)) (by rfl)) (by rfl)) (by rfl) (by rfl) (by rfl))) SA.nil (by rfl)) (by rfl)) (by rfl) (by rfl) (by rfl))))))))))))))
abbrev s_law : Stmt := topS 22
theorem sc_law : FnScope ["script", "feed", "p", "many", "row", "j", "turn", "other", "kept", "counts", "told", "turned_counts", "step"] ["script"] (defScope s_law) := ⟨rfl, rfl, rfl, by decide +kernel, rfl, by decide +kernel, by decide +kernel⟩
def d_law : DenS := (dSeq (dSet 1 (dCallP 1 f__law_feed (dCons (gVar 0) dNil)))
  (dSeq (dSet 2 (den2 gIx (dLst (dCons (gC (.int 2)) (dCons (gC (.int 3)) (dCons (gC (.int 5)) (dCons (gC (.int 7)) dNil))))) (dCallF 2 1 g__law_draw (dCons (gC (.int 4)) dNil))))
  (dSeq (dSet 3 (den2 gAdd (gC (.int 1)) (dCallF 2 1 g__law_draw (dCons (gC (.int 40)) dNil))))
  (dSeq (dIfS (dBl (den2 (gB gEq) (dCallF 2 1 g__law_draw (dCons (gC (.int 8)) dNil)) (gC (.int 1)))) (dSet 3 (den2 gAdd (gC (.int 41)) (dCallF 2 1 g__law_draw (dCons (gC (.int 210)) dNil)))) dNx)
  (dSeq (dSet 4 (compD (iRange1 (dCons (gVar 3) dNil)) [5] (gNameT 5) dYes (dCallF 2 1 g__law_draw (dCons (gVar 2) dNil))))
  (dSeq (dIfS (dBl (den2 (gB gEq) (dCallF 2 1 g__law_draw (dCons (gC (.int 6)) dNil)) (gC (.int 1)))) (dSet 4 (den2 gMul (dLst (dCons (den2 gIx (gVar 4) (gC (.int 0))) dNil)) (gVar 3))) dNx)
  (dSeq (dSet 6 (dCallF 2 1 g__law_draw (dCons (gVar 3) dNil)))
  (dSeq (dSet 7 (den2 gAdd (dSl (gVar 4) (dSome (gVar 6)) dNone) (dSl (gVar 4) dNone (dSome (gVar 6)))))
  (dSeq (dIfS (dBl (den2 (gB gEq) (dCallF 2 1 g__law_draw (dCons (gC (.int 2)) dNil)) (gC (.int 1)))) (dSet 7 (compD (iRange1 (dCons (gVar 3) dNil)) [5] (gNameT 5) dYes (dCallF 2 1 g__law_draw (dCons (gVar 2) dNil)))) dNx)
  (dSeq (dSet 8 (dLst (dCons (den1 gList (gVar 4)) (dCons (den1 gList (gVar 7)) dNil))))
  (dSeq (dSet 9 (dBor (dCallP 2 f__law_agreements (dCons (gVar 4) (dCons (gVar 7) dNil)))))
  (dSeq (dSet 10 (dBor (dCallP 2 f_agreements (dCons (gVar 4) (dCons (gVar 7) dNil)))))
  (dSeq (dIfS (dOr (dNot (dTru (dBor (dCallP 2 (f__law_alike 5) (dCons (gVar 10) (dCons (gVar 9) dNil)))))) (dBl (dBor (den2 (gB gNe) (gVar 8) (dLst (dCons (gVar 4) (dCons (gVar 7) dNil))))))) (dRet (gC (.bl false))) dNx)
  (dSeq (dDrop (dMeth 10 fAppend (dCons (gC (.int 0)) dNil)))
  (dSeq (dIfS (dNot (dTru (dBor (dCallP 2 (f__law_alike 5) (dCons (dBor (dCallP 2 f_agreements (dCons (gVar 4) (dCons (gVar 7) dNil)))) (dCons (gVar 9) dNil)))))) (dRet (gC (.bl false))) dNx)
  (dSeq (dSet 11 (dBor (dCallP 2 f_agreements (dCons (gVar 4) (dCons (den2 gAdd (dSl (gVar 7) (dSome (gVar 6)) dNone) (dSl (gVar 7) dNone (dSome (gVar 6)))) dNil)))))
  (dSeq (dIfS (dOr (dNot (dTru (dBor (dCallP 2 (f__law_alike 5) (dCons (gVar 11) (dCons (den2 gAdd (dSl (gVar 9) (dSome (gVar 6)) dNone) (dSl (gVar 9) dNone (dSome (gVar 6)))) dNil)))))) (dNot (dTru (dBor (dCallP 2 (f__law_alike 5) (dCons (den2 gIx (dBor (dCallP 2 f_agreements (dCons (gVar 4) (dCons (gVar 4) dNil)))) (gC (.int 0))) (dCons (gVar 3) dNil))))))) (dRet (gC (.bl false))) dNx)
  (dSeq (dIfS (dOr (dNot (dTru (dCallP 2 (f__law_alike 5) (dCons (dBor (dCallP 1 f_runs_of (dCons (gVar 4) dNil))) (dCons (dBor (dCallP 1 f__law_runs (dCons (gVar 4) dNil))) dNil))))) (dNot (dTru (dCallP 2 (f__law_alike 5) (dCons (dBor (dCallP 1 f_runs_of (dCons (gVar 7) dNil))) (dCons (dBor (dCallP 1 f__law_runs (dCons (gVar 7) dNil))) dNil)))))) (dRet (gC (.bl false))) dNx)
  (dSeq (dFor [12] (iSeq (dLst (dCons (den2 gAdd (gC (.int 1)) (dCallF 2 1 g__law_draw (dCons (gC (.int 6)) dNil))) (dCons (den2 gAdd (gC (.int 1)) (dCallF 2 1 g__law_draw (dCons (gC (.int 250)) dNil))) (dCons (gVar 3) dNil))))) (gNameT 12) (dIfS (dNot (dTru (dCallP 2 (f__law_alike 5) (dCons (dBor (dCallP 2 f_thinned (dCons (gVar 4) (dCons (gVar 12) dNil)))) (dCons (dBor (dCallP 2 f__law_thinned (dCons (gVar 4) (dCons (gVar 12) dNil)))) dNil))))) (dRet (gC (.bl false))) dNx))
  (dRet (dCallF 2 1 g__law_shifted (dCons (gVar 2) dNil))))))))))))))))))))))
def f_law : List T → Option L := bodyP 1 13 d_law
theorem ok_law (F : Fun K "law" "law" s_law f fd) (c__law_agreements : Fn P w K mg base fa k "_law_agreements" 2 (pureF f__law_agreements)) (c__law_alike : Fn P w K mg base fa k "_law_alike" 2 (pureF (f__law_alike 5))) (c__law_draw : Fn P w K mg base fa k "_law_draw" 2 (feedF g__law_draw)) (c__law_feed : Fn P w K mg base fa k "_law_feed" 1 (pureF f__law_feed)) (c__law_runs : Fn P w K mg base fa k "_law_runs" 1 (pureF f__law_runs)) (c__law_shifted : Fn P w K mg base fa k "_law_shifted" 2 (feedF g__law_shifted)) (c__law_thinned : Fn P w K mg base fa k "_law_thinned" 2 (pureF f__law_thinned)) (c_agreements : Fn P w K mg base fa k "agreements" 2 (pureF f_agreements)) (c_runs_of : Fn P w K mg base fa k "runs_of" 1 (pureF f_runs_of)) (c_thinned : Fn P w K mg base fa k "thinned" 2 (pureF f_thinned)) (m_list : mg "list" = none) (m_range : mg "range" = none) : FnL P w K mg base fa (k + 1) f fd ["script"] (pureF f_law) :=
  fn_pureL (N := ["script", "feed", "p", "many", "row", "j", "turn", "other", "kept", "counts", "told", "turned_counts", "step"]) (as := [1, 2, 3, 3, 4, 4, 6, 7, 7, 8, 9, 10, 11, 12]) (d := d_law) F sc_law fun cdv A outer s H E hr => (SSs.cons (SS.st (i := 1) sc_law.nd (by rfl) (by rfl) (SE.callP c__law_feed hr (by rfl) (SA.cons (SE.v 0 (by rfl) (by rfl) (by rfl) (by rfl)) SA.nil (by rfl)) (by rfl) (by rfl) (by rfl)) (by rfl) (by rfl))
      (SSs.cons (SS.st (i := 2) sc_law.nd (by rfl) (by rfl) (SE.ix (SE.lst (SA.cons SE.int (SA.cons SE.int (SA.cons SE.int (SA.cons SE.int SA.nil (by rfl)) (by rfl)) (by rfl)) (by rfl))) (SE.callF c__law_draw hr (by rfl) (i := 1) (by rfl) (vis_of (by rfl)) (by rfl) (by rfl) (SA.cons SE.int SA.nil (by rfl)) (by rfl) (by rfl) (by rfl)) (fun _ _ => (by rfl))) (by rfl) (by rfl))
      (SSs.cons (SS.st (i := 3) sc_law.nd (by rfl) (by rfl) (SE.add SE.int (SE.callF c__law_draw hr (by rfl) (i := 1) (by rfl) (vis_of (by rfl)) (by rfl) (by rfl) (SA.cons SE.int SA.nil (by rfl)) (by rfl) (by rfl) (by rfl))) (by rfl) (by rfl))
      (SSs.cons (SS.ite (ST.cmp (SE.callF c__law_draw hr (by rfl) (i := 1) (by rfl) (vis_of (by rfl)) (by rfl) (by rfl) (SA.cons SE.int SA.nil (by rfl)) (by rfl) (by rfl) (by rfl)) SE.int (cmp_eq (room64 hr)) (by rfl)) (SSs.one (SS.st (i := 3) sc_law.nd (by rfl) (by rfl) (SE.add SE.int (SE.callF c__law_draw hr (by rfl) (i := 1) (by rfl) (vis_of (by rfl)) (by rfl) (by rfl) (SA.cons SE.int SA.nil (by rfl)) (by rfl) (by rfl) (by rfl))) (by rfl) (by rfl))) SSs.nil)
      (SSs.cons (SS.lc (i := 4) (by rfl) (by rfl) sc_law.nd (by rfl) (by rfl) (sw_true (by rfl) (by rfl) (by rfl) (by decide +kernel)) (SI.range1 (by rfl) m_range (SA.cons (SE.v 3 (by rfl) (by rfl) (by rfl) (by rfl)) SA.nil (by rfl)) (by rfl)) (blkOk_by (own := [("j", 5)]) (N := ["script", "feed", "p", "many", "row", "j", "turn", "other", "kept", "counts", "told", "turned_counts", "step"]) (sc := defScope s_law) (by decide +kernel)) (by decide) (fun _ _ _ _ _ => (SG.n (i := 5) sc_law.nd (by rfl) (by rfl) (by rfl))) (fun _ _ _ _ _ => STs.nil) (fun _ _ _ _ _ => (SE.callF c__law_draw hr (by rfl) (i := 1) (by rfl) (vis_of (by rfl)) (by rfl) (by rfl) (SA.cons (SE.v 2 (by rfl) (by rfl) (by rfl) (by rfl)) SA.nil (by rfl)) (by rfl) (by rfl) (by rfl))) (fun _ => (by rfl)))
      (SSs.cons (SS.ite (ST.cmp (SE.callF c__law_draw hr (by rfl) (i := 1) (by rfl) (vis_of (by rfl)) (by rfl) (by rfl) (SA.cons SE.int SA.nil (by rfl)) (by rfl) (by rfl) (by rfl)) SE.int (cmp_eq (room64 hr)) (by rfl)) (SSs.one (SS.st (i := 4) sc_law.nd (by rfl) (by rfl) (SE.mul (SE.lst (SA.cons (SE.ix (SE.v 4 (by rfl) (by rfl) (by rfl) (by rfl)) SE.int (fun _ _ => (by rfl))) SA.nil (by rfl))) (SE.v 3 (by rfl) (by rfl) (by rfl) (by rfl))) (by rfl) (by rfl))) SSs.nil)
      (SSs.cons (SS.st (i := 6) sc_law.nd (by rfl) (by rfl) (SE.callF c__law_draw hr (by rfl) (i := 1) (by rfl) (vis_of (by rfl)) (by rfl) (by rfl) (SA.cons (SE.v 3 (by rfl) (by rfl) (by rfl) (by rfl)) SA.nil (by rfl)) (by rfl) (by rfl) (by rfl)) (by rfl) (by rfl))
      (SSs.cons (SS.st (i := 7) sc_law.nd (by rfl) (by rfl) (SE.add (SE.sl (SE.v 4 (by rfl) (by rfl) (by rfl) (by rfl)) (SO.some (SE.v 6 (by rfl) (by rfl) (by rfl) (by rfl))) SO.none) (SE.sl (SE.v 4 (by rfl) (by rfl) (by rfl) (by rfl)) SO.none (SO.some (SE.v 6 (by rfl) (by rfl) (by rfl) (by rfl))))) (by rfl) (by rfl))
      (SSs.cons (SS.ite (ST.cmp (SE.callF c__law_draw hr (by rfl) (i := 1) (by rfl) (vis_of (by rfl)) (by rfl) (by rfl) (SA.cons SE.int SA.nil (by rfl)) (by rfl) (by rfl) (by rfl)) SE.int (cmp_eq (room64 hr)) (by rfl)) (SSs.one (SS.lc (i := 7) (by rfl) (by rfl) sc_law.nd (by rfl) (by rfl) (sw_true (by rfl) (by rfl) (by rfl) (by decide +kernel)) (SI.range1 (by rfl) m_range (SA.cons (SE.v 3 (by rfl) (by rfl) (by rfl) (by rfl)) SA.nil (by rfl)) (by rfl)) (blkOk_by (own := [("j", 5)]) (N := ["script", "feed", "p", "many", "row", "j", "turn", "other", "kept", "counts", "told", "turned_counts", "step"]) (sc := defScope s_law) (by decide +kernel)) (by decide) (fun _ _ _ _ _ => (SG.n (i := 5) sc_law.nd (by rfl) (by rfl) (by rfl))) (fun _ _ _ _ _ => STs.nil) (fun _ _ _ _ _ => (SE.callF c__law_draw hr (by rfl) (i := 1) (by rfl) (vis_of (by rfl)) (by rfl) (by rfl) (SA.cons (SE.v 2 (by rfl) (by rfl) (by rfl) (by rfl)) SA.nil (by rfl)) (by rfl) (by rfl) (by rfl))) (fun _ => (by rfl)))) SSs.nil)
      (SSs.cons (SS.st (i := 8) sc_law.nd (by rfl) (by rfl) (SE.lst (SA.cons (SE.list1 (by rfl) m_list (SE.v 4 (by rfl) (by rfl) (by rfl) (by rfl)) (by rfl)) (SA.cons (SE.list1 (by rfl) m_list (SE.v 7 (by rfl) (by rfl) (by rfl) (by rfl)) (by rfl)) SA.nil (by rfl)) (by rfl))) (by rfl) (by rfl))
      (SSs.cons (SS.st (i := 9) sc_law.nd (by rfl) (by rfl) (SE.bor (SE.callP c__law_agreements hr (by rfl) (SA.cons (SE.v 4 (by rfl) (by rfl) (by rfl) (by rfl)) (SA.cons (SE.v 7 (by rfl) (by rfl) (by rfl) (by rfl)) SA.nil (by rfl)) (by rfl)) (by rfl) (by rfl) (by rfl))) (by rfl) (by rfl))
      (SSs.cons (SS.st (i := 10) sc_law.nd (by rfl) (by rfl) (SE.bor (SE.callP c_agreements hr (by rfl) (SA.cons (SE.v 4 (by rfl) (by rfl) (by rfl) (by rfl)) (SA.cons (SE.v 7 (by rfl) (by rfl) (by rfl) (by rfl)) SA.nil (by rfl)) (by rfl)) (by rfl) (by rfl) (by rfl))) (by rfl) (by rfl))
      (SSs.cons (SS.ite (SW.test (SW.or (ST.not (SE.truth (SE.bor (SE.callP c__law_alike hr (by rfl) (SA.cons (SE.v 10 (by rfl) (by rfl) (by rfl) (by rfl)) (SA.cons (SE.v 9 (by rfl) (by rfl) (by rfl) (by rfl)) SA.nil (by rfl)) (by rfl)) (by rfl) (by rfl) (by rfl))) (fun _ => (by rfl)))) (SW.or1 (ST.cmpB (SE.v 8 (by rfl) (by rfl) (by rfl) (by rfl)) (SE.lst (SA.cons (SE.v 4 (by rfl) (by rfl) (by rfl) (by rfl)) (SA.cons (SE.v 7 (by rfl) (by rfl) (by rfl) (by rfl)) SA.nil (by rfl)) (by rfl))) (cmp_ne (room64 hr)) (by rfl))))) (SSs.one (SS.ret SE.bl)) SSs.nil)
      (SSs.cons (SS.expr (SE.meth (i := 10) PySem.F.slot_list_append PySem.F.type_list_append mt_append me_append (by rfl) (vis_of (by rfl)) (by rfl) (by rfl) (SA.cons SE.int SA.nil (by rfl)) (by rfl) (by rfl) (by rfl) (by rfl)) (by rfl))
      (SSs.cons (SS.ite (ST.not (SE.truth (SE.bor (SE.callP c__law_alike hr (by rfl) (SA.cons (SE.bor (SE.callP c_agreements hr (by rfl) (SA.cons (SE.v 4 (by rfl) (by rfl) (by rfl) (by rfl)) (SA.cons (SE.v 7 (by rfl) (by rfl) (by rfl) (by rfl)) SA.nil (by rfl)) (by rfl)) (by rfl) (by rfl) (by rfl))) (SA.cons (SE.v 9 (by rfl) (by rfl) (by rfl) (by rfl)) SA.nil (by rfl)) (by rfl)) (by rfl) (by rfl) (by rfl))) (fun _ => (by rfl)))) (SSs.one (SS.ret SE.bl)) SSs.nil)
      (SSs.cons (SS.st (i := 11) sc_law.nd (by rfl) (by rfl) (SE.bor (SE.callP c_agreements hr (by rfl) (SA.cons (SE.v 4 (by rfl) (by rfl) (by rfl) (by rfl)) (SA.cons (SE.add (SE.sl (SE.v 7 (by rfl) (by rfl) (by rfl) (by rfl)) (SO.some (SE.v 6 (by rfl) (by rfl) (by rfl) (by rfl))) SO.none) (SE.sl (SE.v 7 (by rfl) (by rfl) (by rfl) (by rfl)) SO.none (SO.some (SE.v 6 (by rfl) (by rfl) (by rfl) (by rfl))))) SA.nil (by rfl)) (by rfl)) (by rfl) (by rfl) (by rfl))) (by rfl) (by rfl))
      (SSs.cons (SS.ite (SW.test (SW.or (ST.not (SE.truth (SE.bor (SE.callP c__law_alike hr (by rfl) (SA.cons (SE.v 11 (by rfl) (by rfl) (by rfl) (by rfl)) (SA.cons (SE.add (SE.sl (SE.v 9 (by rfl) (by rfl) (by rfl) (by rfl)) (SO.some (SE.v 6 (by rfl) (by rfl) (by rfl) (by rfl))) SO.none) (SE.sl (SE.v 9 (by rfl) (by rfl) (by rfl) (by rfl)) SO.none (SO.some (SE.v 6 (by rfl) (by rfl) (by rfl) (by rfl))))) SA.nil (by rfl)) (by rfl)) (by rfl) (by rfl) (by rfl))) (fun _ => (by rfl)))) (SW.or1 (ST.not (SE.truth (SE.bor (SE.callP c__law_alike hr (by rfl) (SA.cons (SE.ix (SE.bor (SE.callP c_agreements hr (by rfl) (SA.cons (SE.v 4 (by rfl) (by rfl) (by rfl) (by rfl)) (SA.cons (SE.v 4 (by rfl) (by rfl) (by rfl) (by rfl)) SA.nil (by rfl)) (by rfl)) (by rfl) (by rfl) (by rfl))) SE.int (fun _ _ => (by rfl))) (SA.cons (SE.v 3 (by rfl) (by rfl) (by rfl) (by rfl)) SA.nil (by rfl)) (by rfl)) (by rfl) (by rfl) (by rfl))) (fun _ => (by rfl))))))) (SSs.one (SS.ret SE.bl)) SSs.nil)
      (SSs.cons (SS.ite (SW.test (SW.or (ST.not (SE.truth (SE.callP c__law_alike hr (by rfl) (SA.cons (SE.bor (SE.callP c_runs_of hr (by rfl) (SA.cons (SE.v 4 (by rfl) (by rfl) (by rfl) (by rfl)) SA.nil (by rfl)) (by rfl) (by rfl) (by rfl))) (SA.cons (SE.bor (SE.callP c__law_runs hr (by rfl) (SA.cons (SE.v 4 (by rfl) (by rfl) (by rfl) (by rfl)) SA.nil (by rfl)) (by rfl) (by rfl) (by rfl))) SA.nil (by rfl)) (by rfl)) (by rfl) (by rfl) (by rfl)) (fun _ => (by rfl)))) (SW.or1 (ST.not (SE.truth (SE.callP c__law_alike hr (by rfl) (SA.cons (SE.bor (SE.callP c_runs_of hr (by rfl) (SA.cons (SE.v 7 (by rfl) (by rfl) (by rfl) (by rfl)) SA.nil (by rfl)) (by rfl) (by rfl) (by rfl))) (SA.cons (SE.bor (SE.callP c__law_runs hr (by rfl) (SA.cons (SE.v 7 (by rfl) (by rfl) (by rfl) (by rfl)) SA.nil (by rfl)) (by rfl) (by rfl) (by rfl))) SA.nil (by rfl)) (by rfl)) (by rfl) (by rfl) (by rfl)) (fun _ => (by rfl))))))) (SSs.one (SS.ret SE.bl)) SSs.nil)
      (SSs.cons (SS.for PassesOwn.never (by rfl) (SI.seq (SE.lst (SA.cons (SE.add SE.int (SE.callF c__law_draw hr (by rfl) (i := 1) (by rfl) (vis_of (by rfl)) (by rfl) (by rfl) (SA.cons SE.int SA.nil (by rfl)) (by rfl) (by rfl) (by rfl))) (SA.cons (SE.add SE.int (SE.callF c__law_draw hr (by rfl) (i := 1) (by rfl) (vis_of (by rfl)) (by rfl) (by rfl) (SA.cons SE.int SA.nil (by rfl)) (by rfl) (by rfl) (by rfl))) (SA.cons (SE.v 3 (by rfl) (by rfl) (by rfl) (by rfl)) SA.nil (by rfl)) (by rfl)) (by rfl)))) (SG.n (i := 12) sc_law.nd (by rfl) (by rfl) (by rfl)) (SSs.one (SS.ite (ST.not (SE.truth (SE.callP c__law_alike hr (by rfl) (SA.cons (SE.bor (SE.callP c_thinned hr (by rfl) (SA.cons (SE.v 4 (by rfl) (by rfl) (by rfl) (by rfl)) (SA.cons (SE.v 12 (by rfl) (by rfl) (by rfl) (by rfl)) SA.nil (by rfl)) (by rfl)) (by rfl) (by rfl) (by rfl))) (SA.cons (SE.bor (SE.callP c__law_thinned hr (by rfl) (SA.cons (SE.v 4 (by rfl) (by rfl) (by rfl) (by rfl)) (SA.cons (SE.v 12 (by rfl) (by rfl) (by rfl) (by rfl)) SA.nil (by rfl)) (by rfl)) (by rfl) (by rfl) (by rfl))) SA.nil (by rfl)) (by rfl)) (by rfl) (by rfl) (by rfl)) (fun _ => (by rfl)))) (SSs.one (SS.ret SE.bl)) SSs.nil)) (fun _ => (by rfl)))
      (SSs.one (SS.ret (SE.callF c__law_shifted hr (by rfl) (i := 1) (by rfl) (vis_of (by rfl)) (by rfl) (by rfl) (SA.cons (SE.v 2 (by rfl) (by rfl) (by rfl) (by rfl)) SA.nil (by rfl)) (by rfl) (by rfl) (by rfl)))))))))))))))))))))))
end
end LK
namespace LK
open PySem LW
open L2 (atI ixN)

abbrev ii (ns : List Int) : List T := ns.map T.int
def dotR (taps row : List Int) : Int := ((List.range taps.length).map fun i => taps.getD i 0 * row.getD (row.length - 1 - i) 0).sum
/-- small numbers -/
def Sm (ns : List Int) : Prop := ∀ x ∈ ns, 0 ≤ x ∧ x < 1000
theorem enumT_ii (ns : List Int) : enumT (ii ns) = (List.range ns.length).map fun i => T.tup [.int (i : Nat), .int (ns.getD i 0)] := by
  refine List.ext_getElem? fun i => ?_
  simp only [enumT, ii, List.getElem?_map, List.getElem?_zipIdx]
  by_cases h : i < ns.length
  · simp [h]
  · simp [h]
theorem ev_next_number {p : Int} {taps row : List Int} (hp : 0 < p) (hl : taps.length ≤ row.length) (ht : Sm taps) (hz : taps.length ≤ 1000) :
    f_next_number [.int p, .lst (ii taps), .lst (ii row)] = some (.t (.int (dotR taps row % p))) := by
  have hc : compD (iEnumT (gVar 1)) [3, 4] (gTupT 2 (gConsT (gNameT 3) (gConsT (gNameT 4) gNilT))) dYes (den2 gMul (gVar 4) (den2 gIx (gVar 2) (den2 gSub (den2 gSub (den1 gLen (gVar 2)) (gC (.int 1))) (gVar 3))))
      [.t (.int p), .t (.lst (ii taps)), .t (.lst (ii row)), .un, .un] = some (.own (.lst ((List.range taps.length).map fun i => .int (taps.getD i 0 * row.getD (row.length - 1 - i) 0))), [.t (.int p), .t (.lst (ii taps)), .t (.lst (ii row)), .un, .un]) := by
    refine compD_eq (xs := (List.range taps.length).map fun i => T.tup [.int (i : Nat), .int (taps.getD i 0)]) (ho := none) (ρ1 := [.t (.int p), .t (.lst (ii taps)), .t (.lst (ii row)), .un, .un]) ?_ (compL_m _ _ _ fun i hi => ?_) ?_
    · rw [← enumT_ii]
      simp only [den1, den2, gVar, gC, gAdd, gSub, gMod, gNeg, gIx, gLen, gAbs, gInt, gList, gTuple, gCat, L.lview, L.view, L.tree, L.hid, L.asBl, L.asInt, L.truth, dBl, dTru, gB, gEq, gNe, gLt_e, gLe_e, gGt_e, gGe_e, dCons, dNil, dTup, dLst, dSet, stoE, dRet, dDrop, dNot, dAnd, dOr, dYes, gNameT, gTupT, gConsT, gNilT, iEnumT, iSeq, iZipT, hideO, wipeE, restE, dMeth, isOwnL, fAppend, dSl, dSome, dNone, gSl, dCallP, allT, nor, finP, Option.bind_some, Option.map_some, List.getElem?_cons_zero, List.getElem?_cons_succ, List.set_cons_zero, List.set_cons_succ, List.length_cons, List.length_nil, List.map_cons, List.map_nil, List.replicate, List.cons_append, List.nil_append, List.append_nil, Option.toList_none, Option.toList_some]
    · have hi : i < taps.length := by simpa using hi
      have hx : 0 ≤ taps.getD i 0 ∧ taps.getD i 0 < 1000 := by
        have : taps.getD i 0 ∈ taps := by simp [hi]
        exact ht _ this
      have h1 : atI (ii row) ((row.length : Int) - 1 - i) = some (.int (row.getD (row.length - 1 - i) 0)) := by
        have := atI_ints (ns := row) (i := (row.length : Int) - 1 - i) (by omega) (by omega)
        rw [this, show ((row.length : Int) - 1 - i).toNat = row.length - 1 - i by omega]
      have h2 : mulOk (taps.getD i 0) (row.getD (row.length - 1 - i) 0) = true := mulOk_small (by omega) (by omega)
      refine ⟨[.t (.int p), .t (.lst (ii taps)), .t (.lst (ii row)), .t (.int i), .t (.int (taps.getD i 0))], ?_, .t (.int (taps.getD i 0 * row.getD (row.length - 1 - i) 0)), [.t (.int p), .t (.lst (ii taps)), .t (.lst (ii row)), .t (.int i), .t (.int (taps.getD i 0))], ?_, rfl, rfl⟩
      · simp [den1, den2, gVar, gC, gAdd, gSub, gMod, gNeg, gIx, gLen, gAbs, gInt, gList, gTuple, gCat, L.lview, L.view, L.tree, L.hid, L.asBl, L.asInt, L.truth, dBl, dTru, gB, gEq, gNe, gLt_e, gLe_e, gGt_e, gGe_e, dCons, dNil, dTup, dLst, dSet, stoE, dRet, dDrop, dNot, dAnd, dOr, dYes, gNameT, gTupT, gConsT, gNilT, iEnumT, iSeq, iZipT, hideO, wipeE, restE, dMeth, isOwnL, fAppend, dSl, dSome, dNone, gSl, dCallP, allT, nor, finP, Option.bind_some, Option.map_some, List.getElem?_cons_zero, List.getElem?_cons_succ, List.set_cons_zero, List.set_cons_succ, List.length_cons, List.length_nil, List.map_cons, List.map_nil, List.replicate, List.cons_append, List.nil_append, List.append_nil, Option.toList_none, Option.toList_some]
      · have e3 : (ii row).length = row.length := by simp [ii]
        simp only [den1, den2, gVar, gC, gAdd, gSub, gMod, gNeg, gIx, gLen, gAbs, gInt, gList, gTuple, gCat, L.lview, L.view, L.tree, L.hid, L.asBl, L.asInt, L.truth, dBl, dTru, gB, gEq, gNe, gLt_e, gLe_e, gGt_e, gGe_e, dCons, dNil, dTup, dLst, dSet, stoE, dRet, dDrop, dNot, dAnd, dOr, dYes, gNameT, gTupT, gConsT, gNilT, iEnumT, iSeq, iZipT, hideO, wipeE, restE, dMeth, isOwnL, fAppend, dSl, dSome, dNone, gSl, dCallP, allT, nor, finP, Option.bind_some, Option.map_some, List.getElem?_cons_zero, List.getElem?_cons_succ, List.set_cons_zero, List.set_cons_succ, List.length_cons, List.length_nil, List.map_cons, List.map_nil, List.replicate, List.cons_append, List.nil_append, List.append_nil, Option.toList_none, Option.toList_some, e3, h1, gMul_e _ h2]
    · simp [line]; omega
  have hs : asInts ((List.range taps.length).map fun i => T.int (taps.getD i 0 * row.getD (row.length - 1 - i) 0)) = some ((List.range taps.length).map fun i => taps.getD i 0 * row.getD (row.length - 1 - i) 0) := asInts_f _ _
  simp only [f_next_number, bodyP, d_next_number, den1, den2, gVar, gC, gAdd, gSub, gMod, gNeg, gIx, gLen, gAbs, gInt, gList, gTuple, gCat, L.lview, L.view, L.tree, L.hid, L.asBl, L.asInt, L.truth, dBl, dTru, gB, gEq, gNe, gLt_e, gLe_e, gGt_e, gGe_e, dCons, dNil, dTup, dLst, dSet, stoE, dRet, dDrop, dNot, dAnd, dOr, dYes, gNameT, gTupT, gConsT, gNilT, iEnumT, iSeq, iZipT, hideO, wipeE, restE, dMeth, isOwnL, fAppend, dSl, dSome, dNone, gSl, dCallP, allT, nor, finP, Option.bind_some, Option.map_some, List.getElem?_cons_zero, List.getElem?_cons_succ, List.set_cons_zero, List.set_cons_succ, List.length_cons, List.length_nil, List.map_cons, List.map_nil, List.replicate, List.cons_append, List.nil_append, List.append_nil, Option.toList_none, Option.toList_some, hc, gSum, hs, hp, if_true, dotR, Nat.sub_self, Nat.reduceSub, Nat.reduceAdd]
end LK
namespace LK
open PySem LW
open L2 (atI ixN)

def push (p : Int) (taps row : List Int) : List Int := row ++ [dotR taps row % p]
def grow (p : Int) (taps row : List Int) : Nat → List Int
  | 0 => row
  | n + 1 => push p taps (grow p taps row n)
theorem grow_len (p : Int) (taps row : List Int) : ∀ n, (grow p taps row n).length = row.length + n
  | 0 => rfl
  | n + 1 => by simp [grow, push, grow_len p taps row n]; omega
theorem ii_app (a : List Int) (x : Int) : ii a ++ [T.int x] = ii (a ++ [x]) := by simp [ii]
theorem ev_register_row {p : Int} {taps begun : List Int} {m : Nat} (hp : 0 < p) (ht : Sm taps) (hl : taps.length ≤ begun.length) (hz : taps.length ≤ 1000) (hm : m < 900) :
    f_register_row [.int p, .lst (ii taps), .lst (ii begun), .int m] = some (.own (.lst (ii ((grow p taps begun (m - begun.length)).take m)))) := by
  let E (r : List Int) : REnv := [.t (.int p), .t (.lst (ii taps)), .t (.lst (ii begun)), .t (.int m), .own (.lst (ii r))]
  obtain ⟨ρ', hw, rfl⟩ := whileL_steps (c := dBl (den2 (gB gLt) (den1 gLen (gVar 4)) (gVar 3))) (db := dDrop (dMeth 4 fAppend (dCons (dBor (dCallP 3 f_next_number (dCons (gVar 0) (dCons (gVar 1) (dCons (gVar 4) dNil))))) dNil)))
    (Pz := fun ρ => ρ = E (grow p taps begun (m - begun.length))) (fun i ρ => ρ = E (grow p taps begun i)) (m - begun.length) (by
      rintro i hi ρ rfl
      have gl := grow_len p taps begun i
      refine ⟨E (grow p taps begun i), E (grow p taps begun (i + 1)), ?_, ?_, rfl⟩
      · have : ((grow p taps begun i).length : Int) < m := by omega
        simp only [E, den1, den2, gVar, gC, gAdd, gSub, gMod, gNeg, gIx, gLen, gAbs, gInt, gList, gTuple, gCat, L.lview, L.view, L.tree, L.hid, L.asBl, L.asInt, L.truth, dBl, dTru, gB, gEq, gNe, gLt_e, gLe_e, gGt_e, gGe_e, dCons, dNil, dTup, dLst, dSet, stoE, dRet, dDrop, dNot, dAnd, dOr, dYes, gNameT, gTupT, gConsT, gNilT, iEnumT, iSeq, iZipT, hideO, wipeE, restE, dMeth, isOwnL, fAppend, dSl, dSome, dNone, gSl, dCallP, allT, nor, finP, Option.bind_some, Option.map_some, List.getElem?_cons_zero, List.getElem?_cons_succ, List.set_cons_zero, List.set_cons_succ, List.length_cons, List.length_nil, List.map_cons, List.map_nil, List.replicate, List.cons_append, List.nil_append, List.append_nil, Option.toList_none, Option.toList_some, ii, List.length_map, this, decide_true]
      · have hb : dBor (dCallP 3 f_next_number (dCons (gVar 0) (dCons (gVar 1) (dCons (gVar 4) dNil)))) (E (grow p taps begun i)) = some (.t (.int (dotR taps (grow p taps begun i) % p)), E (grow p taps begun i)) := by
          refine dBor_eq (ρ' := frzE (E (grow p taps begun i))) ?_ (noL_int _)
          have := ev_next_number (row := grow p taps begun i) hp (by omega) ht hz
          simp only [E, frzE, frzL, den1, den2, gVar, gC, gAdd, gSub, gMod, gNeg, gIx, gLen, gAbs, gInt, gList, gTuple, gCat, L.lview, L.view, L.tree, L.hid, L.asBl, L.asInt, L.truth, dBl, dTru, gB, gEq, gNe, gLt_e, gLe_e, gGt_e, gGe_e, dCons, dNil, dTup, dLst, dSet, stoE, dRet, dDrop, dNot, dAnd, dOr, dYes, gNameT, gTupT, gConsT, gNilT, iEnumT, iSeq, iZipT, hideO, wipeE, restE, dMeth, isOwnL, fAppend, dSl, dSome, dNone, gSl, dCallP, allT, nor, finP, Option.bind_some, Option.map_some, List.getElem?_cons_zero, List.getElem?_cons_succ, List.set_cons_zero, List.set_cons_succ, List.length_cons, List.length_nil, List.map_cons, List.map_nil, List.replicate, List.cons_append, List.nil_append, List.append_nil, Option.toList_none, Option.toList_some, this, if_true, Nat.reduceAdd]
        have hlen : (grow p taps begun i).length < line := by simp [line]; omega
        simp only [E] at hb ⊢
        simp only [den1, den2, gVar, gC, gAdd, gSub, gMod, gNeg, gIx, gLen, gAbs, gInt, gList, gTuple, gCat, L.lview, L.view, L.tree, L.hid, L.asBl, L.asInt, L.truth, dBl, dTru, gB, gEq, gNe, gLt_e, gLe_e, gGt_e, gGe_e, dCons, dNil, dTup, dLst, dSet, stoE, dRet, dDrop, dNot, dAnd, dOr, dYes, gNameT, gTupT, gConsT, gNilT, iEnumT, iSeq, iZipT, hideO, wipeE, restE, dMeth, isOwnL, fAppend, dSl, dSome, dNone, gSl, dCallP, allT, nor, finP, Option.bind_some, Option.map_some, List.getElem?_cons_zero, List.getElem?_cons_succ, List.set_cons_zero, List.set_cons_succ, List.length_cons, List.length_nil, List.map_cons, List.map_nil, List.replicate, List.cons_append, List.nil_append, List.append_nil, Option.toList_none, Option.toList_some, hb, grow, push, ii_app]
        simp [hlen, line] ; omega) (by
      rintro ρ rfl
      refine ⟨E (grow p taps begun (m - begun.length)), ?_, rfl⟩
      have gl := grow_len p taps begun (m - begun.length)
      have : ¬ ((grow p taps begun (m - begun.length)).length : Int) < m := by omega
      simp only [E, den1, den2, gVar, gC, gAdd, gSub, gMod, gNeg, gIx, gLen, gAbs, gInt, gList, gTuple, gCat, L.lview, L.view, L.tree, L.hid, L.asBl, L.asInt, L.truth, dBl, dTru, gB, gEq, gNe, gLt_e, gLe_e, gGt_e, gGe_e, dCons, dNil, dTup, dLst, dSet, stoE, dRet, dDrop, dNot, dAnd, dOr, dYes, gNameT, gTupT, gConsT, gNilT, iEnumT, iSeq, iZipT, hideO, wipeE, restE, dMeth, isOwnL, fAppend, dSl, dSome, dNone, gSl, dCallP, allT, nor, finP, Option.bind_some, Option.map_some, List.getElem?_cons_zero, List.getElem?_cons_succ, List.set_cons_zero, List.set_cons_succ, List.length_cons, List.length_nil, List.map_cons, List.map_nil, List.replicate, List.cons_append, List.nil_append, List.append_nil, Option.toList_none, Option.toList_some, ii, List.length_map, this, decide_false]) (m - begun.length) 0 1000 (by omega) (by omega) (E begun) rfl
  simp only [E] at hw
  simp only [f_register_row, bodyP, d_register_row, dSeq, den1, den2, gVar, gC, gAdd, gSub, gMod, gNeg, gIx, gLen, gAbs, gInt, gList, gTuple, gCat, L.lview, L.view, L.tree, L.hid, L.asBl, L.asInt, L.truth, dBl, dTru, gB, gEq, gNe, gLt_e, gLe_e, gGt_e, gGe_e, dCons, dNil, dTup, dLst, dSet, stoE, dRet, dDrop, dNot, dAnd, dOr, dYes, gNameT, gTupT, gConsT, gNilT, iEnumT, iSeq, iZipT, hideO, wipeE, restE, dMeth, isOwnL, fAppend, dSl, dSome, dNone, gSl, dCallP, allT, nor, finP, Option.bind_some, Option.map_some, List.getElem?_cons_zero, List.getElem?_cons_succ, List.set_cons_zero, List.set_cons_succ, List.length_cons, List.length_nil, List.map_cons, List.map_nil, List.replicate, List.cons_append, List.nil_append, List.append_nil, Option.toList_none, Option.toList_some, hw, E, if_true, Nat.reduceSub, Nat.reduceAdd, Nat.reduceLT, cut_hi, ii, List.map_take]
def nxS (p : Int) (taps st : List Int) : List Int := st.drop 1 ++ [dotR taps st % p]
theorem cut_lo1 (xs : List T) : cutT xs (some 1) none = xs.drop 1 := cut_lo xs 1
theorem cut_hi1 (xs : List T) : cutT xs none (some 1) = xs.take 1 := cut_hi xs 1
theorem ev_next_state {p : Int} {taps st : List Int} (hp : 0 < p) (ht : Sm taps) (hl : taps.length ≤ st.length) (hz : st.length ≤ 1000) :
    f_next_state [.int p, .lst (ii taps), .tup (ii st)] = some (.t (.tup (ii (nxS p taps st)))) := by
  have e := ev_next_number (row := st) hp hl ht (by omega)
  have hlen : (List.drop 1 (ii st)).length + 1 ≤ line := by simp [line]; omega
  simp only [f_next_state, bodyP, d_next_state, den1, den2, gVar, gC, gAdd, gSub, gMod, gNeg, gIx, gLen, gAbs, gInt, gList, gTuple, gCat, L.lview, L.view, L.tree, L.hid, L.asBl, L.asInt, L.truth, dBl, dTru, gB, gEq, gNe, gLt_e, gLe_e, gGt_e, gGe_e, dCons, dNil, dTup, dLst, dSet, stoE, dRet, dDrop, dNot, dAnd, dOr, dYes, gNameT, gTupT, gConsT, gNilT, iEnumT, iSeq, iZipT, hideO, wipeE, restE, dMeth, isOwnL, fAppend, dSl, dSome, dNone, gSl, dCallP, allT, nor, finP, Option.bind_some, Option.map_some, List.getElem?_cons_zero, List.getElem?_cons_succ, List.set_cons_zero, List.set_cons_succ, List.length_cons, List.length_nil, List.map_cons, List.map_nil, List.replicate, List.cons_append, List.nil_append, List.append_nil, Option.toList_none, Option.toList_some, e, if_true, Nat.reduceSub, Nat.reduceAdd, cut_lo1, show 0 + 1 ≤ line from by decide, hlen, nxS]
  simp [ii, hlen]
def itS (p : Int) (taps : List Int) : Nat → List Int → List Int
  | 0, st => st
  | n + 1, st => nxS p taps (itS p taps n st)
theorem nxS_len {p : Int} {taps st : List Int} (h : 0 < st.length) : (nxS p taps st).length = st.length := by simp [nxS]; omega
theorem itS_len {p : Int} {taps st : List Int} (h : 0 < st.length) : ∀ n, (itS p taps n st).length = st.length
  | 0 => rfl
  | n + 1 => by rw [itS, nxS_len (by rw [itS_len h n]; exact h), itS_len h n]
theorem noL_tups (f : Nat → List Int) (n : Nat) : True := trivial
theorem ev_round_from {p : Int} {taps st : List Int} {N : Nat} (hp : 0 < p) (ht : Sm taps) (h0 : 0 < st.length) (hl : taps.length ≤ st.length) (hz : st.length ≤ 1000) (hN : 0 < N) (hN2 : N < 900)
    (h1 : itS p taps N st = st) (h2 : ∀ i, 0 < i → i < N → itS p taps i st ≠ st) :
    f_round_from [.int p, .lst (ii taps), .tup (ii st)] = some (.own (.lst ((List.range N).map fun i => T.tup (ii (itS p taps i st))))) := by
  let E (i : Nat) : REnv := [.t (.int p), .t (.lst (ii taps)), .t (.tup (ii st)), .own (.lst ((List.range (i + 1)).map fun i => T.tup (ii (itS p taps i st)))), .t (.tup (ii (itS p taps (i + 1) st)))]
  have nx : ∀ i, f_next_state [.int p, .lst (ii taps), .tup (ii (itS p taps i st))] = some (.t (.tup (ii (itS p taps (i + 1) st)))) := fun i => ev_next_state hp ht (by rw [itS_len h0]; exact hl) (by rw [itS_len h0]; exact hz)
  obtain ⟨ρ', hw, rfl⟩ := whileL_steps (c := dBl (den2 (gB gNe) (gVar 4) (gVar 2))) (db := dSeq (dDrop (dMeth 3 fAppend (dCons (gVar 4) dNil))) (dSet 4 (dBor (dCallP 3 f_next_state (dCons (gVar 0) (dCons (gVar 1) (dCons (gVar 4) dNil)))))))
    (Pz := fun ρ => ρ = E (N - 1)) (fun i ρ => ρ = E i) (N - 1) (by
      rintro i hi ρ rfl
      refine ⟨E i, E (i + 1), ?_, ?_, rfl⟩
      · have : itS p taps (i + 1) st ≠ st := h2 (i + 1) (by omega) (by omega)
        simp only [E, den1, den2, gVar, gC, gAdd, gSub, gMod, gNeg, gIx, gLen, gAbs, gInt, gList, gTuple, gCat, L.lview, L.view, L.tree, L.hid, L.asBl, L.asInt, L.truth, dBl, dTru, gB, gEq, gNe, gLt_e, gLe_e, gGt_e, gGe_e, dCons, dNil, dTup, dLst, dSet, stoE, dRet, dDrop, dNot, dAnd, dOr, dYes, gNameT, gTupT, gConsT, gNilT, iEnumT, iSeq, iZipT, hideO, wipeE, restE, dMeth, isOwnL, fAppend, dSl, dSome, dNone, gSl, dCallP, allT, nor, finP, Option.bind_some, Option.map_some, List.getElem?_cons_zero, List.getElem?_cons_succ, List.set_cons_zero, List.set_cons_succ, List.length_cons, List.length_nil, List.map_cons, List.map_nil, List.replicate, List.cons_append, List.nil_append, List.append_nil, Option.toList_none, Option.toList_some, eqOk_tup, eqv_tup, this, decide_false, if_true, Bool.not_false]
      · have hb : ∀ xs : List T, dBor (dCallP 3 f_next_state (dCons (gVar 0) (dCons (gVar 1) (dCons (gVar 4) dNil)))) [.t (.int p), .t (.lst (ii taps)), .t (.tup (ii st)), .own (.lst xs), .t (.tup (ii (itS p taps (i + 1) st)))] = some (.t (.tup (ii (itS p taps (i + 2) st))), [.t (.int p), .t (.lst (ii taps)), .t (.tup (ii st)), .own (.lst xs), .t (.tup (ii (itS p taps (i + 1) st)))]) := fun xs => by
          refine dBor_eq (ρ' := [.t (.int p), .t (.lst (ii taps)), .t (.tup (ii st)), .t (.lst xs), .t (.tup (ii (itS p taps (i + 1) st)))]) ?_ (noL_tup _)
          simp only [frzE, frzL, den1, den2, gVar, gC, gAdd, gSub, gMod, gNeg, gIx, gLen, gAbs, gInt, gList, gTuple, gCat, L.lview, L.view, L.tree, L.hid, L.asBl, L.asInt, L.truth, dBl, dTru, gB, gEq, gNe, gLt_e, gLe_e, gGt_e, gGe_e, dCons, dNil, dTup, dLst, dSet, stoE, dRet, dDrop, dNot, dAnd, dOr, dYes, gNameT, gTupT, gConsT, gNilT, iEnumT, iSeq, iZipT, hideO, wipeE, restE, dMeth, isOwnL, fAppend, dSl, dSome, dNone, gSl, dCallP, allT, nor, finP, Option.bind_some, Option.map_some, List.getElem?_cons_zero, List.getElem?_cons_succ, List.set_cons_zero, List.set_cons_succ, List.length_cons, List.length_nil, List.map_cons, List.map_nil, List.replicate, List.cons_append, List.nil_append, List.append_nil, Option.toList_none, Option.toList_some, nx, if_true, Nat.reduceAdd]
        have hlen : i + 1 < line := by simp [line]; omega
        simp only [E, dSeq, den1, den2, gVar, gC, gAdd, gSub, gMod, gNeg, gIx, gLen, gAbs, gInt, gList, gTuple, gCat, L.lview, L.view, L.tree, L.hid, L.asBl, L.asInt, L.truth, dBl, dTru, gB, gEq, gNe, gLt_e, gLe_e, gGt_e, gGe_e, dCons, dNil, dTup, dLst, dSet, stoE, dRet, dDrop, dNot, dAnd, dOr, dYes, gNameT, gTupT, gConsT, gNilT, iEnumT, iSeq, iZipT, hideO, wipeE, restE, dMeth, isOwnL, fAppend, dSl, dSome, dNone, gSl, dCallP, allT, nor, finP, Option.bind_some, Option.map_some, List.getElem?_cons_zero, List.getElem?_cons_succ, List.set_cons_zero, List.set_cons_succ, List.length_cons, List.length_nil, List.map_cons, List.map_nil, List.replicate, List.cons_append, List.nil_append, List.append_nil, Option.toList_none, Option.toList_some, List.length_map, List.length_range, hlen, if_true, hb, Nat.reduceAdd, Nat.reduceLT]
        rw [List.range_succ (n := i + 1), List.map_append]
        rfl) (by
      rintro ρ rfl
      refine ⟨E (N - 1), ?_, rfl⟩
      have e : N - 1 + 1 = N := by omega
      simp only [E, den1, den2, gVar, gC, gAdd, gSub, gMod, gNeg, gIx, gLen, gAbs, gInt, gList, gTuple, gCat, L.lview, L.view, L.tree, L.hid, L.asBl, L.asInt, L.truth, dBl, dTru, gB, gEq, gNe, gLt_e, gLe_e, gGt_e, gGe_e, dCons, dNil, dTup, dLst, dSet, stoE, dRet, dDrop, dNot, dAnd, dOr, dYes, gNameT, gTupT, gConsT, gNilT, iEnumT, iSeq, iZipT, hideO, wipeE, restE, dMeth, isOwnL, fAppend, dSl, dSome, dNone, gSl, dCallP, allT, nor, finP, Option.bind_some, Option.map_some, List.getElem?_cons_zero, List.getElem?_cons_succ, List.set_cons_zero, List.set_cons_succ, List.length_cons, List.length_nil, List.map_cons, List.map_nil, List.replicate, List.cons_append, List.nil_append, List.append_nil, Option.toList_none, Option.toList_some, eqOk_tup, eqv_tup, e, h1, decide_true, if_true, Bool.not_true]) (N - 1) 0 1000 (by omega) (by omega) (E 0) rfl
  simp only [E, Nat.zero_add, List.range_one, List.map_cons, List.map_nil, itS] at hw
  have n0 := nx 0
  simp only [itS] at n0
  have e : N - 1 + 1 = N := by omega
  simp only [f_round_from, bodyP, d_round_from, dSeq, den1, den2, gVar, gC, gAdd, gSub, gMod, gNeg, gIx, gLen, gAbs, gInt, gList, gTuple, gCat, L.lview, L.view, L.tree, L.hid, L.asBl, L.asInt, L.truth, dBl, dTru, gB, gEq, gNe, gLt_e, gLe_e, gGt_e, gGe_e, dCons, dNil, dTup, dLst, dSet, stoE, dRet, dDrop, dNot, dAnd, dOr, dYes, gNameT, gTupT, gConsT, gNilT, iEnumT, iSeq, iZipT, hideO, wipeE, restE, dMeth, isOwnL, fAppend, dSl, dSome, dNone, gSl, dCallP, allT, nor, finP, Option.bind_some, Option.map_some, List.getElem?_cons_zero, List.getElem?_cons_succ, List.set_cons_zero, List.set_cons_succ, List.length_cons, List.length_nil, List.map_cons, List.map_nil, List.replicate, List.cons_append, List.nil_append, List.append_nil, Option.toList_none, Option.toList_some, n0, hw, E, e, if_true, Nat.reduceSub, Nat.reduceAdd, Nat.reduceLT, show 0 + 1 ≤ line from by decide, show 1 ≤ line from by decide]
theorem gcd_loop : ∀ (b a fuel : Nat), b < fuel → whileL (dTru (gVar 1)) (dPar 0 1 (dCons (gVar 1) (dCons (den2 gMod (gVar 0) (gVar 1)) dNil))) fuel [.t (.int a), .t (.int b)] = some (.nx, [.t (.int (Nat.gcd a b : Nat)), .t (.int 0)]) := by
  intro b
  induction b using Nat.strongRecOn with
  | ind b ih =>
    intro a fuel hf
    cases fuel with
    | zero => omega
    | succ fuel =>
      by_cases hb : b = 0
      · subst hb
        simp [whileL, den1, den2, gVar, gC, gAdd, gSub, gMod, gNeg, gIx, gLen, gAbs, gInt, gList, gTuple, gCat, L.lview, L.view, L.tree, L.hid, L.asBl, L.asInt, L.truth, dBl, dTru, gB, gEq, gNe, gLt_e, gLe_e, gGt_e, gGe_e, dCons, dNil, dTup, dLst, dSet, stoE, dRet, dDrop, dNot, dAnd, dOr, dYes, gNameT, gTupT, gConsT, gNilT, iEnumT, iSeq, iZipT, hideO, wipeE, restE, dMeth, isOwnL, fAppend, dSl, dSome, dNone, gSl, dCallP, allT, nor, finP, Option.bind_some, Option.map_some, List.getElem?_cons_zero, List.getElem?_cons_succ, List.set_cons_zero, List.set_cons_succ, List.length_cons, List.length_nil, List.map_cons, List.map_nil, List.replicate, List.cons_append, List.nil_append, List.append_nil, Option.toList_none, Option.toList_some]
      · have h1 : ((b : Int) != 0) = true := by simp; omega
        have h2 : (0 : Int) < b := by omega
        have lt : a % b < b := Nat.mod_lt _ (by omega)
        have := ih (a % b) lt b fuel (by omega)
        have e : ((a : Int) % b) = ((a % b : Nat) : Int) := by simp
        have eg : Nat.gcd b (a % b) = Nat.gcd a b := by rw [Nat.gcd_comm a b, Nat.gcd_rec b a, Nat.gcd_comm]
        simp only [whileL, den1, den2, gVar, gC, gAdd, gSub, gMod, gNeg, gIx, gLen, gAbs, gInt, gList, gTuple, gCat, L.lview, L.view, L.tree, L.hid, L.asBl, L.asInt, L.truth, dBl, dTru, gB, gEq, gNe, gLt_e, gLe_e, gGt_e, gGe_e, dCons, dNil, dTup, dLst, dSet, stoE, dRet, dDrop, dNot, dAnd, dOr, dYes, gNameT, gTupT, gConsT, gNilT, iEnumT, iSeq, iZipT, hideO, wipeE, restE, dMeth, isOwnL, fAppend, dSl, dSome, dNone, gSl, dCallP, allT, nor, finP, Option.bind_some, Option.map_some, List.getElem?_cons_zero, List.getElem?_cons_succ, List.set_cons_zero, List.set_cons_succ, List.length_cons, List.length_nil, List.map_cons, List.map_nil, List.replicate, List.cons_append, List.nil_append, List.append_nil, Option.toList_none, Option.toList_some, h1, if_true, h2, dPar, e, Nat.zero_add, Nat.reduceAdd, Nat.reduceLT, decide_true, Bool.and_self, this, eg]
theorem ev_greatest_common (a b : Nat) (h : b < 1000) : f_greatest_common [.int a, .int b] = some (.t (.int (Nat.gcd a b : Nat))) := by
  simp only [f_greatest_common, bodyP, d_greatest_common, dSeq, den1, den2, gVar, gC, gAdd, gSub, gMod, gNeg, gIx, gLen, gAbs, gInt, gList, gTuple, gCat, L.lview, L.view, L.tree, L.hid, L.asBl, L.asInt, L.truth, dBl, dTru, gB, gEq, gNe, gLt_e, gLe_e, gGt_e, gGe_e, dCons, dNil, dTup, dLst, dSet, stoE, dRet, dDrop, dNot, dAnd, dOr, dYes, gNameT, gTupT, gConsT, gNilT, iEnumT, iSeq, iZipT, hideO, wipeE, restE, dMeth, isOwnL, fAppend, dSl, dSome, dNone, gSl, dCallP, allT, nor, finP, Option.bind_some, Option.map_some, List.getElem?_cons_zero, List.getElem?_cons_succ, List.set_cons_zero, List.set_cons_succ, List.length_cons, List.length_nil, List.map_cons, List.map_nil, List.replicate, List.cons_append, List.nil_append, List.append_nil, Option.toList_none, Option.toList_some, gcd_loop b a 1000 h, if_true, Nat.reduceSub, Nat.reduceAdd]
end LK
namespace LK
open PySem LW
open L2 (atI ixN)

def agr (row other : List Int) (s : Nat) : Int := (((List.range row.length).filter fun i => decide (row.getD i 0 = other.getD ((i + s) % row.length) 0)).length : Nat)
theorem ix_ii {row : List Int} {i : Nat} (h : i < row.length) : atI (ii row) (i : Int) = some (.int (row.getD i 0)) := by
  have := atI_ints (ns := row) (i := (i : Int)) (by omega) (by omega)
  simpa using this
theorem ev_agreements {row other : List Int} (hl : other.length = row.length) (hz : row.length < 1000) :
    f_agreements [.lst (ii row), .lst (ii other)] = some (.own (.lst (ii ((List.range row.length).map (agr row other))))) := by
  let E (x y : L) : REnv := [.t (.lst (ii row)), .t (.lst (ii other)), .t (.int row.length), x, y]
  have inner : ∀ s : Nat, s < row.length → compD (iRange1 (dCons (gVar 2) dNil)) [3] (gNameT 3) (dBl (den2 (gB gEq) (den2 gIx (gVar 0) (gVar 3)) (den2 gIx (gVar 1) (den2 gMod (den2 gAdd (gVar 3) (gVar 4)) (gVar 2))))) (gVar 3) (E .un (.t (.int s)))
      = some (.own (.lst (((List.range row.length).filter fun i => decide (row.getD i 0 = other.getD ((i + s) % row.length) 0)).map fun i => T.int (i : Nat))), E .un (.t (.int s))) := by
    intro s hs
    refine compD_eq (xs := (List.range row.length).map fun i => T.int (i : Nat)) (ho := none) (ρ1 := E .un (.t (.int s))) (iRange1_eq (by simp only [E, den1, den2, gVar, gC, gAdd, gSub, gMod, gNeg, gIx, gLen, gAbs, gInt, gList, gTuple, gCat, L.lview, L.view, L.tree, L.hid, L.asBl, L.asInt, L.truth, dBl, dTru, gB, gEq, gNe, gLt_e, gLe_e, gGt_e, gGe_e, dCons, dNil, dTup, dLst, dSet, stoE, dRet, dDrop, dNot, dAnd, dOr, dYes, gNameT, gTupT, gConsT, gNilT, iEnumT, iSeq, iZipT, hideO, wipeE, restE, dMeth, isOwnL, fAppend, dSl, dSome, dNone, gSl, dCallP, allT, nor, finP, Option.bind_some, Option.map_some, List.getElem?_cons_zero, List.getElem?_cons_succ, List.set_cons_zero, List.set_cons_succ, List.length_cons, List.length_nil, List.map_cons, List.map_nil, List.replicate, List.cons_append, List.nil_append, List.append_nil, Option.toList_none, Option.toList_some]) (by omega)) (compL_fm _ _ _ _ fun i hi => ?_) ?_
    · have hi : i < row.length := by simpa using hi
      have hm : (i + s) % row.length < other.length := by rw [hl]; exact Nat.mod_lt _ (by omega)
      have e1 := ix_ii hi
      have e2 := ix_ii hm
      have e3 : ((i : Int) + s) % row.length = (((i + s) % row.length : Nat) : Int) := by simp
      have hp : (0 : Int) < row.length := by omega
      refine ⟨E (.t (.int i)) (.t (.int s)), E (.t (.int i)) (.t (.int s)), by simp only [E, den1, den2, gVar, gC, gAdd, gSub, gMod, gNeg, gIx, gLen, gAbs, gInt, gList, gTuple, gCat, L.lview, L.view, L.tree, L.hid, L.asBl, L.asInt, L.truth, dBl, dTru, gB, gEq, gNe, gLt_e, gLe_e, gGt_e, gGe_e, dCons, dNil, dTup, dLst, dSet, stoE, dRet, dDrop, dNot, dAnd, dOr, dYes, gNameT, gTupT, gConsT, gNilT, iEnumT, iSeq, iZipT, hideO, wipeE, restE, dMeth, isOwnL, fAppend, dSl, dSome, dNone, gSl, dCallP, allT, nor, finP, Option.bind_some, Option.map_some, List.getElem?_cons_zero, List.getElem?_cons_succ, List.set_cons_zero, List.set_cons_succ, List.length_cons, List.length_nil, List.map_cons, List.map_nil, List.replicate, List.cons_append, List.nil_append, List.append_nil, Option.toList_none, Option.toList_some, Nat.reduceAdd, Nat.reduceLT, if_true], ?_, fun _ => ⟨.t (.int i), E (.t (.int i)) (.t (.int s)), by simp only [E, den1, den2, gVar, gC, gAdd, gSub, gMod, gNeg, gIx, gLen, gAbs, gInt, gList, gTuple, gCat, L.lview, L.view, L.tree, L.hid, L.asBl, L.asInt, L.truth, dBl, dTru, gB, gEq, gNe, gLt_e, gLe_e, gGt_e, gGe_e, dCons, dNil, dTup, dLst, dSet, stoE, dRet, dDrop, dNot, dAnd, dOr, dYes, gNameT, gTupT, gConsT, gNilT, iEnumT, iSeq, iZipT, hideO, wipeE, restE, dMeth, isOwnL, fAppend, dSl, dSome, dNone, gSl, dCallP, allT, nor, finP, Option.bind_some, Option.map_some, List.getElem?_cons_zero, List.getElem?_cons_succ, List.set_cons_zero, List.set_cons_succ, List.length_cons, List.length_nil, List.map_cons, List.map_nil, List.replicate, List.cons_append, List.nil_append, List.append_nil, Option.toList_none, Option.toList_some], rfl, by simp only [E, den1, den2, gVar, gC, gAdd, gSub, gMod, gNeg, gIx, gLen, gAbs, gInt, gList, gTuple, gCat, L.lview, L.view, L.tree, L.hid, L.asBl, L.asInt, L.truth, dBl, dTru, gB, gEq, gNe, gLt_e, gLe_e, gGt_e, gGe_e, dCons, dNil, dTup, dLst, dSet, stoE, dRet, dDrop, dNot, dAnd, dOr, dYes, gNameT, gTupT, gConsT, gNilT, iEnumT, iSeq, iZipT, hideO, wipeE, restE, dMeth, isOwnL, fAppend, dSl, dSome, dNone, gSl, dCallP, allT, nor, finP, Option.bind_some, Option.map_some, List.getElem?_cons_zero, List.getElem?_cons_succ, List.set_cons_zero, List.set_cons_succ, List.length_cons, List.length_nil, List.map_cons, List.map_nil, List.replicate, List.cons_append, List.nil_append, List.append_nil, Option.toList_none, Option.toList_some]⟩, fun _ => by simp only [E, den1, den2, gVar, gC, gAdd, gSub, gMod, gNeg, gIx, gLen, gAbs, gInt, gList, gTuple, gCat, L.lview, L.view, L.tree, L.hid, L.asBl, L.asInt, L.truth, dBl, dTru, gB, gEq, gNe, gLt_e, gLe_e, gGt_e, gGe_e, dCons, dNil, dTup, dLst, dSet, stoE, dRet, dDrop, dNot, dAnd, dOr, dYes, gNameT, gTupT, gConsT, gNilT, iEnumT, iSeq, iZipT, hideO, wipeE, restE, dMeth, isOwnL, fAppend, dSl, dSome, dNone, gSl, dCallP, allT, nor, finP, Option.bind_some, Option.map_some, List.getElem?_cons_zero, List.getElem?_cons_succ, List.set_cons_zero, List.set_cons_succ, List.length_cons, List.length_nil, List.map_cons, List.map_nil, List.replicate, List.cons_append, List.nil_append, List.append_nil, Option.toList_none, Option.toList_some]⟩
      simp only [E, den1, den2, gVar, gC, gAdd, gSub, gMod, gNeg, gIx, gLen, gAbs, gInt, gList, gTuple, gCat, L.lview, L.view, L.tree, L.hid, L.asBl, L.asInt, L.truth, dBl, dTru, gB, gEq, gNe, gLt_e, gLe_e, gGt_e, gGe_e, dCons, dNil, dTup, dLst, dSet, stoE, dRet, dDrop, dNot, dAnd, dOr, dYes, gNameT, gTupT, gConsT, gNilT, iEnumT, iSeq, iZipT, hideO, wipeE, restE, dMeth, isOwnL, fAppend, dSl, dSome, dNone, gSl, dCallP, allT, nor, finP, Option.bind_some, Option.map_some, List.getElem?_cons_zero, List.getElem?_cons_succ, List.set_cons_zero, List.set_cons_succ, List.length_cons, List.length_nil, List.map_cons, List.map_nil, List.replicate, List.cons_append, List.nil_append, List.append_nil, Option.toList_none, Option.toList_some, hp, if_true, e3, e1, e2, eqOk_int, eqv_int]
    · have := List.length_filter_le (fun i => decide (row.getD i 0 = other.getD ((i + s) % row.length) 0)) (List.range row.length)
      simp only [List.length_map, List.length_range, line] at this ⊢
      omega
  have outer : compD (iRange1 (dCons (gVar 2) dNil)) [4] (gNameT 4) dYes (den1 gLen (compD (iRange1 (dCons (gVar 2) dNil)) [3] (gNameT 3) (dBl (den2 (gB gEq) (den2 gIx (gVar 0) (gVar 3)) (den2 gIx (gVar 1) (den2 gMod (den2 gAdd (gVar 3) (gVar 4)) (gVar 2))))) (gVar 3))) (E .un .un)
      = some (.own (.lst ((List.range row.length).map fun s => T.int (agr row other s))), E .un .un) := by
    refine compD_eq (xs := (List.range row.length).map fun i => T.int (i : Nat)) (ho := none) (ρ1 := E .un .un) (iRange1_eq (by simp only [E, den1, den2, gVar, gC, gAdd, gSub, gMod, gNeg, gIx, gLen, gAbs, gInt, gList, gTuple, gCat, L.lview, L.view, L.tree, L.hid, L.asBl, L.asInt, L.truth, dBl, dTru, gB, gEq, gNe, gLt_e, gLe_e, gGt_e, gGe_e, dCons, dNil, dTup, dLst, dSet, stoE, dRet, dDrop, dNot, dAnd, dOr, dYes, gNameT, gTupT, gConsT, gNilT, iEnumT, iSeq, iZipT, hideO, wipeE, restE, dMeth, isOwnL, fAppend, dSl, dSome, dNone, gSl, dCallP, allT, nor, finP, Option.bind_some, Option.map_some, List.getElem?_cons_zero, List.getElem?_cons_succ, List.set_cons_zero, List.set_cons_succ, List.length_cons, List.length_nil, List.map_cons, List.map_nil, List.replicate, List.cons_append, List.nil_append, List.append_nil, Option.toList_none, Option.toList_some]) (by omega)) (compL_m _ _ _ fun s hs => ?_) ?_
    · have hs : s < row.length := by simpa using hs
      refine ⟨E .un (.t (.int s)), by simp only [E, den1, den2, gVar, gC, gAdd, gSub, gMod, gNeg, gIx, gLen, gAbs, gInt, gList, gTuple, gCat, L.lview, L.view, L.tree, L.hid, L.asBl, L.asInt, L.truth, dBl, dTru, gB, gEq, gNe, gLt_e, gLe_e, gGt_e, gGe_e, dCons, dNil, dTup, dLst, dSet, stoE, dRet, dDrop, dNot, dAnd, dOr, dYes, gNameT, gTupT, gConsT, gNilT, iEnumT, iSeq, iZipT, hideO, wipeE, restE, dMeth, isOwnL, fAppend, dSl, dSome, dNone, gSl, dCallP, allT, nor, finP, Option.bind_some, Option.map_some, List.getElem?_cons_zero, List.getElem?_cons_succ, List.set_cons_zero, List.set_cons_succ, List.length_cons, List.length_nil, List.map_cons, List.map_nil, List.replicate, List.cons_append, List.nil_append, List.append_nil, Option.toList_none, Option.toList_some, Nat.reduceAdd, Nat.reduceLT, if_true], .t (.int (agr row other s)), E .un (.t (.int s)), ?_, rfl, by simp only [E, den1, den2, gVar, gC, gAdd, gSub, gMod, gNeg, gIx, gLen, gAbs, gInt, gList, gTuple, gCat, L.lview, L.view, L.tree, L.hid, L.asBl, L.asInt, L.truth, dBl, dTru, gB, gEq, gNe, gLt_e, gLe_e, gGt_e, gGe_e, dCons, dNil, dTup, dLst, dSet, stoE, dRet, dDrop, dNot, dAnd, dOr, dYes, gNameT, gTupT, gConsT, gNilT, iEnumT, iSeq, iZipT, hideO, wipeE, restE, dMeth, isOwnL, fAppend, dSl, dSome, dNone, gSl, dCallP, allT, nor, finP, Option.bind_some, Option.map_some, List.getElem?_cons_zero, List.getElem?_cons_succ, List.set_cons_zero, List.set_cons_succ, List.length_cons, List.length_nil, List.map_cons, List.map_nil, List.replicate, List.cons_append, List.nil_append, List.append_nil, Option.toList_none, Option.toList_some]⟩
      rw [den1, inner s hs]
      simp only [den1, den2, gVar, gC, gAdd, gSub, gMod, gNeg, gIx, gLen, gAbs, gInt, gList, gTuple, gCat, L.lview, L.view, L.tree, L.hid, L.asBl, L.asInt, L.truth, dBl, dTru, gB, gEq, gNe, gLt_e, gLe_e, gGt_e, gGe_e, dCons, dNil, dTup, dLst, dSet, stoE, dRet, dDrop, dNot, dAnd, dOr, dYes, gNameT, gTupT, gConsT, gNilT, iEnumT, iSeq, iZipT, hideO, wipeE, restE, dMeth, isOwnL, fAppend, dSl, dSome, dNone, gSl, dCallP, allT, nor, finP, Option.bind_some, Option.map_some, List.getElem?_cons_zero, List.getElem?_cons_succ, List.set_cons_zero, List.set_cons_succ, List.length_cons, List.length_nil, List.map_cons, List.map_nil, List.replicate, List.cons_append, List.nil_append, List.append_nil, Option.toList_none, Option.toList_some, agr, List.length_map]
    · simp [line]; omega
  have s1 : dSet 2 (den1 gLen (gVar 0)) [.t (.lst (ii row)), .t (.lst (ii other)), .un, .un, .un] = some (.nx, E .un .un) := by
    have e : (ii row).length = row.length := by simp [ii]
    simp only [E, den1, den2, gVar, gC, gAdd, gSub, gMod, gNeg, gIx, gLen, gAbs, gInt, gList, gTuple, gCat, L.lview, L.view, L.tree, L.hid, L.asBl, L.asInt, L.truth, dBl, dTru, gB, gEq, gNe, gLt_e, gLe_e, gGt_e, gGe_e, dCons, dNil, dTup, dLst, dSet, stoE, dRet, dDrop, dNot, dAnd, dOr, dYes, gNameT, gTupT, gConsT, gNilT, iEnumT, iSeq, iZipT, hideO, wipeE, restE, dMeth, isOwnL, fAppend, dSl, dSome, dNone, gSl, dCallP, allT, nor, finP, Option.bind_some, Option.map_some, List.getElem?_cons_zero, List.getElem?_cons_succ, List.set_cons_zero, List.set_cons_succ, List.length_cons, List.length_nil, List.map_cons, List.map_nil, List.replicate, List.cons_append, List.nil_append, List.append_nil, Option.toList_none, Option.toList_some, e, Nat.reduceAdd, Nat.reduceLT, if_true]
  rw [show ii ((List.range row.length).map (agr row other)) = (List.range row.length).map fun s => T.int (agr row other s) by rw [ii, List.map_map]; rfl]
  refine bodyP_own (ρ' := E .un .un) rfl ?_
  show d_agreements [.t (.lst (ii row)), .t (.lst (ii other)), .un, .un, .un] = _
  rw [d_agreements, dSeq_nx s1]
  exact dRet_eq outer
theorem ev_law_agreements {row other : List Int} (hl : other.length = row.length) (hz : row.length < 1000) :
    f__law_agreements [.lst (ii row), .lst (ii other)] = some (.own (.lst (ii ((List.range row.length).map (agr row other))))) := by
  let E (b : List Int) (x y : L) : REnv := [.t (.lst (ii row)), .t (.lst (ii other)), .own (.lst (ii b)), .t (.int row.length), .own (.lst (ii (other ++ other))), x, y]
  have inner : ∀ (b : List Int) (s : Nat), s < row.length → compD (iRange1 (dCons (gVar 3) dNil)) [6] (gNameT 6) (dBl (den2 (gB gEq) (den2 gIx (gVar 0) (gVar 6)) (den2 gIx (gVar 4) (den2 gAdd (gVar 6) (gVar 5))))) (gVar 6) (E b (.t (.int s)) .un)
      = some (.own (.lst (((List.range row.length).filter fun i => decide (row.getD i 0 = other.getD ((i + s) % row.length) 0)).map fun i => T.int (i : Nat))), E b (.t (.int s)) .un) := by
    intro b s hs
    refine compD_eq (xs := (List.range row.length).map fun i => T.int (i : Nat)) (ho := none) (ρ1 := E b (.t (.int s)) .un) (iRange1_eq (by simp only [E, den1, den2, gVar, gC, gAdd, gSub, gMod, gNeg, gIx, gLen, gAbs, gInt, gList, gTuple, gCat, L.lview, L.view, L.tree, L.hid, L.asBl, L.asInt, L.truth, dBl, dTru, gB, gEq, gNe, gLt_e, gLe_e, gGt_e, gGe_e, dCons, dNil, dTup, dLst, dSet, stoE, dRet, dDrop, dNot, dAnd, dOr, dYes, gNameT, gTupT, gConsT, gNilT, iEnumT, iSeq, iZipT, hideO, wipeE, restE, dMeth, isOwnL, fAppend, dSl, dSome, dNone, gSl, dCallP, allT, nor, finP, Option.bind_some, Option.map_some, List.getElem?_cons_zero, List.getElem?_cons_succ, List.set_cons_zero, List.set_cons_succ, List.length_cons, List.length_nil, List.map_cons, List.map_nil, List.replicate, List.cons_append, List.nil_append, List.append_nil, Option.toList_none, Option.toList_some]) (by omega)) (compL_fm _ _ _ _ fun i hi => ?_) ?_
    · have hi : i < row.length := by simpa using hi
      have e1 := ix_ii hi
      have e2 := ix_ii (row := other ++ other) (i := i + s) (by simp; omega)
      have e4 : (other ++ other).getD (i + s) 0 = other.getD ((i + s) % row.length) 0 := by
        by_cases h : i + s < row.length
        · rw [Nat.mod_eq_of_lt h, getD_app1 (by omega)]
        · rw [getD_app2 (by omega), hl]
          congr 1
          rw [Nat.mod_eq_sub_mod (by omega), Nat.mod_eq_of_lt (by omega)]
      have e3 : ((i : Int) + s) = ((i + s : Nat) : Int) := by simp
      refine ⟨E b (.t (.int s)) (.t (.int i)), E b (.t (.int s)) (.t (.int i)), by simp only [E, den1, den2, gVar, gC, gAdd, gSub, gMod, gNeg, gIx, gLen, gAbs, gInt, gList, gTuple, gCat, L.lview, L.view, L.tree, L.hid, L.asBl, L.asInt, L.truth, dBl, dTru, gB, gEq, gNe, gLt_e, gLe_e, gGt_e, gGe_e, dCons, dNil, dTup, dLst, dSet, stoE, dRet, dDrop, dNot, dAnd, dOr, dYes, gNameT, gTupT, gConsT, gNilT, iEnumT, iSeq, iZipT, hideO, wipeE, restE, dMeth, isOwnL, fAppend, dSl, dSome, dNone, gSl, dCallP, allT, nor, finP, Option.bind_some, Option.map_some, List.getElem?_cons_zero, List.getElem?_cons_succ, List.set_cons_zero, List.set_cons_succ, List.length_cons, List.length_nil, List.map_cons, List.map_nil, List.replicate, List.cons_append, List.nil_append, List.append_nil, Option.toList_none, Option.toList_some, Nat.reduceAdd, Nat.reduceLT, if_true], ?_, fun _ => ⟨.t (.int i), E b (.t (.int s)) (.t (.int i)), by simp only [E, den1, den2, gVar, gC, gAdd, gSub, gMod, gNeg, gIx, gLen, gAbs, gInt, gList, gTuple, gCat, L.lview, L.view, L.tree, L.hid, L.asBl, L.asInt, L.truth, dBl, dTru, gB, gEq, gNe, gLt_e, gLe_e, gGt_e, gGe_e, dCons, dNil, dTup, dLst, dSet, stoE, dRet, dDrop, dNot, dAnd, dOr, dYes, gNameT, gTupT, gConsT, gNilT, iEnumT, iSeq, iZipT, hideO, wipeE, restE, dMeth, isOwnL, fAppend, dSl, dSome, dNone, gSl, dCallP, allT, nor, finP, Option.bind_some, Option.map_some, List.getElem?_cons_zero, List.getElem?_cons_succ, List.set_cons_zero, List.set_cons_succ, List.length_cons, List.length_nil, List.map_cons, List.map_nil, List.replicate, List.cons_append, List.nil_append, List.append_nil, Option.toList_none, Option.toList_some], rfl, by simp only [E, den1, den2, gVar, gC, gAdd, gSub, gMod, gNeg, gIx, gLen, gAbs, gInt, gList, gTuple, gCat, L.lview, L.view, L.tree, L.hid, L.asBl, L.asInt, L.truth, dBl, dTru, gB, gEq, gNe, gLt_e, gLe_e, gGt_e, gGe_e, dCons, dNil, dTup, dLst, dSet, stoE, dRet, dDrop, dNot, dAnd, dOr, dYes, gNameT, gTupT, gConsT, gNilT, iEnumT, iSeq, iZipT, hideO, wipeE, restE, dMeth, isOwnL, fAppend, dSl, dSome, dNone, gSl, dCallP, allT, nor, finP, Option.bind_some, Option.map_some, List.getElem?_cons_zero, List.getElem?_cons_succ, List.set_cons_zero, List.set_cons_succ, List.length_cons, List.length_nil, List.map_cons, List.map_nil, List.replicate, List.cons_append, List.nil_append, List.append_nil, Option.toList_none, Option.toList_some]⟩, fun _ => by simp only [E, den1, den2, gVar, gC, gAdd, gSub, gMod, gNeg, gIx, gLen, gAbs, gInt, gList, gTuple, gCat, L.lview, L.view, L.tree, L.hid, L.asBl, L.asInt, L.truth, dBl, dTru, gB, gEq, gNe, gLt_e, gLe_e, gGt_e, gGe_e, dCons, dNil, dTup, dLst, dSet, stoE, dRet, dDrop, dNot, dAnd, dOr, dYes, gNameT, gTupT, gConsT, gNilT, iEnumT, iSeq, iZipT, hideO, wipeE, restE, dMeth, isOwnL, fAppend, dSl, dSome, dNone, gSl, dCallP, allT, nor, finP, Option.bind_some, Option.map_some, List.getElem?_cons_zero, List.getElem?_cons_succ, List.set_cons_zero, List.set_cons_succ, List.length_cons, List.length_nil, List.map_cons, List.map_nil, List.replicate, List.cons_append, List.nil_append, List.append_nil, Option.toList_none, Option.toList_some]⟩
      simp only [E, den1, den2, gVar, gC, gAdd, gSub, gMod, gNeg, gIx, gLen, gAbs, gInt, gList, gTuple, gCat, L.lview, L.view, L.tree, L.hid, L.asBl, L.asInt, L.truth, dBl, dTru, gB, gEq, gNe, gLt_e, gLe_e, gGt_e, gGe_e, dCons, dNil, dTup, dLst, dSet, stoE, dRet, dDrop, dNot, dAnd, dOr, dYes, gNameT, gTupT, gConsT, gNilT, iEnumT, iSeq, iZipT, hideO, wipeE, restE, dMeth, isOwnL, fAppend, dSl, dSome, dNone, gSl, dCallP, allT, nor, finP, Option.bind_some, Option.map_some, List.getElem?_cons_zero, List.getElem?_cons_succ, List.set_cons_zero, List.set_cons_succ, List.length_cons, List.length_nil, List.map_cons, List.map_nil, List.replicate, List.cons_append, List.nil_append, List.append_nil, Option.toList_none, Option.toList_some, if_true, e3, e1, e2, e4, eqOk_int, eqv_int]
    · have := List.length_filter_le (fun i => decide (row.getD i 0 = other.getD ((i + s) % row.length) 0)) (List.range row.length)
      simp only [List.length_map, List.length_range, line] at this ⊢
      omega
  obtain ⟨ρ', hf, last, rfl⟩ := forL_range (g := gNameT 5) (db := dDrop (dMeth 2 fAppend (dCons (den1 gLen (compD (iRange1 (dCons (gVar 3) dNil)) [6] (gNameT 6) (dBl (den2 (gB gEq) (den2 gIx (gVar 0) (gVar 6)) (den2 gIx (gVar 4) (den2 gAdd (gVar 6) (gVar 5))))) (gVar 6))) dNil)))
    (fun k ρ => ∃ last, ρ = E ((List.range k).map (agr row other)) last .un) row.length (by
      rintro s ρ hs ⟨last, rfl⟩
      refine ⟨E ((List.range s).map (agr row other)) (.t (.int s)) .un, E ((List.range (s + 1)).map (agr row other)) (.t (.int s)) .un, by simp only [E, den1, den2, gVar, gC, gAdd, gSub, gMod, gNeg, gIx, gLen, gAbs, gInt, gList, gTuple, gCat, L.lview, L.view, L.tree, L.hid, L.asBl, L.asInt, L.truth, dBl, dTru, gB, gEq, gNe, gLt_e, gLe_e, gGt_e, gGe_e, dCons, dNil, dTup, dLst, dSet, stoE, dRet, dDrop, dNot, dAnd, dOr, dYes, gNameT, gTupT, gConsT, gNilT, iEnumT, iSeq, iZipT, hideO, wipeE, restE, dMeth, isOwnL, fAppend, dSl, dSome, dNone, gSl, dCallP, allT, nor, finP, Option.bind_some, Option.map_some, List.getElem?_cons_zero, List.getElem?_cons_succ, List.set_cons_zero, List.set_cons_succ, List.length_cons, List.length_nil, List.map_cons, List.map_nil, List.replicate, List.cons_append, List.nil_append, List.append_nil, Option.toList_none, Option.toList_some, Nat.reduceAdd, Nat.reduceLT, if_true], ?_, _, rfl⟩
      have hi := inner ((List.range s).map (agr row other)) s hs
      have hd : dCons (den1 gLen (compD (iRange1 (dCons (gVar 3) dNil)) [6] (gNameT 6) (dBl (den2 (gB gEq) (den2 gIx (gVar 0) (gVar 6)) (den2 gIx (gVar 4) (den2 gAdd (gVar 6) (gVar 5))))) (gVar 6))) dNil (E ((List.range s).map (agr row other)) (.t (.int s)) .un) = some ([.int (agr row other s)], E ((List.range s).map (agr row other)) (.t (.int s)) .un) := by
        simp only [dCons, dNil, den1, hi, Option.bind_some, Option.map_some, gLen, L.lview, L.tree, List.length_map, agr]
      have ha : fAppend (ii ((List.range s).map (agr row other))) [.int (agr row other s)] = some (.non, ii ((List.range (s + 1)).map (agr row other))) := by
        rw [app_own (by simp [line]; omega), List.range_succ, List.map_append, ii_app]
        rfl
      rw [dDrop, dMeth, hd]
      simp only [E, isOwnL, List.getElem?_cons_zero, List.getElem?_cons_succ, if_true, Option.bind_some, ha, Option.map_some, List.set_cons_zero, List.set_cons_succ]) (E [] .un .un) ⟨.un, rfl⟩
  have s1 : dSet 2 (dLst dNil) [.t (.lst (ii row)), .t (.lst (ii other)), .un, .un, .un, .un, .un] = some (.nx, [.t (.lst (ii row)), .t (.lst (ii other)), .own (.lst []), .un, .un, .un, .un]) := by
    simp only [den1, den2, gVar, gC, gAdd, gSub, gMod, gNeg, gIx, gLen, gAbs, gInt, gList, gTuple, gCat, L.lview, L.view, L.tree, L.hid, L.asBl, L.asInt, L.truth, dBl, dTru, gB, gEq, gNe, gLt_e, gLe_e, gGt_e, gGe_e, dCons, dNil, dTup, dLst, dSet, stoE, dRet, dDrop, dNot, dAnd, dOr, dYes, gNameT, gTupT, gConsT, gNilT, iEnumT, iSeq, iZipT, hideO, wipeE, restE, dMeth, isOwnL, fAppend, dSl, dSome, dNone, gSl, dCallP, allT, nor, finP, Option.bind_some, Option.map_some, List.getElem?_cons_zero, List.getElem?_cons_succ, List.set_cons_zero, List.set_cons_succ, List.length_cons, List.length_nil, List.map_cons, List.map_nil, List.replicate, List.cons_append, List.nil_append, List.append_nil, Option.toList_none, Option.toList_some, Nat.reduceAdd, Nat.reduceLT, if_true, Nat.zero_le]
  have e : (ii row).length = row.length := by simp [ii]
  have e2 : (ii other).length = row.length := by simp [ii, hl]
  have s2 : dSet 3 (den1 gLen (gVar 0)) [.t (.lst (ii row)), .t (.lst (ii other)), .own (.lst []), .un, .un, .un, .un] = some (.nx, [.t (.lst (ii row)), .t (.lst (ii other)), .own (.lst []), .t (.int row.length), .un, .un, .un]) := by
    simp only [den1, den2, gVar, gC, gAdd, gSub, gMod, gNeg, gIx, gLen, gAbs, gInt, gList, gTuple, gCat, L.lview, L.view, L.tree, L.hid, L.asBl, L.asInt, L.truth, dBl, dTru, gB, gEq, gNe, gLt_e, gLe_e, gGt_e, gGe_e, dCons, dNil, dTup, dLst, dSet, stoE, dRet, dDrop, dNot, dAnd, dOr, dYes, gNameT, gTupT, gConsT, gNilT, iEnumT, iSeq, iZipT, hideO, wipeE, restE, dMeth, isOwnL, fAppend, dSl, dSome, dNone, gSl, dCallP, allT, nor, finP, Option.bind_some, Option.map_some, List.getElem?_cons_zero, List.getElem?_cons_succ, List.set_cons_zero, List.set_cons_succ, List.length_cons, List.length_nil, List.map_cons, List.map_nil, List.replicate, List.cons_append, List.nil_append, List.append_nil, Option.toList_none, Option.toList_some, e, Nat.reduceAdd, Nat.reduceLT, if_true]
  have s3 : dSet 4 (den2 gAdd (gVar 1) (gVar 1)) [.t (.lst (ii row)), .t (.lst (ii other)), .own (.lst []), .t (.int row.length), .un, .un, .un] = some (.nx, E [] .un .un) := by
    have hz2 : row.length + row.length ≤ line := by simp [line]; omega
    simp only [E, den1, den2, gVar, gC, gAdd, gSub, gMod, gNeg, gIx, gLen, gAbs, gInt, gList, gTuple, gCat, L.lview, L.view, L.tree, L.hid, L.asBl, L.asInt, L.truth, dBl, dTru, gB, gEq, gNe, gLt_e, gLe_e, gGt_e, gGe_e, dCons, dNil, dTup, dLst, dSet, stoE, dRet, dDrop, dNot, dAnd, dOr, dYes, gNameT, gTupT, gConsT, gNilT, iEnumT, iSeq, iZipT, hideO, wipeE, restE, dMeth, isOwnL, fAppend, dSl, dSome, dNone, gSl, dCallP, allT, nor, finP, Option.bind_some, Option.map_some, List.getElem?_cons_zero, List.getElem?_cons_succ, List.set_cons_zero, List.set_cons_succ, List.length_cons, List.length_nil, List.map_cons, List.map_nil, List.replicate, List.cons_append, List.nil_append, List.append_nil, Option.toList_none, Option.toList_some, e2, hz2, Nat.reduceAdd, Nat.reduceLT, if_true, ii, List.map_append]
  have s4 := dFor_eq (as := [5]) (iRange1_eq (d := gVar 3) (ρ := E [] .un .un) (ρ' := E [] .un .un) (n := row.length) (by simp only [E, den1, den2, gVar, gC, gAdd, gSub, gMod, gNeg, gIx, gLen, gAbs, gInt, gList, gTuple, gCat, L.lview, L.view, L.tree, L.hid, L.asBl, L.asInt, L.truth, dBl, dTru, gB, gEq, gNe, gLt_e, gLe_e, gGt_e, gGe_e, dCons, dNil, dTup, dLst, dSet, stoE, dRet, dDrop, dNot, dAnd, dOr, dYes, gNameT, gTupT, gConsT, gNilT, iEnumT, iSeq, iZipT, hideO, wipeE, restE, dMeth, isOwnL, fAppend, dSl, dSome, dNone, gSl, dCallP, allT, nor, finP, Option.bind_some, Option.map_some, List.getElem?_cons_zero, List.getElem?_cons_succ, List.set_cons_zero, List.set_cons_succ, List.length_cons, List.length_nil, List.map_cons, List.map_nil, List.replicate, List.cons_append, List.nil_append, List.append_nil, Option.toList_none, Option.toList_some]) (by omega)) hf
  refine bodyP_ref (ρ' := E ((List.range row.length).map (agr row other)) last .un) rfl ?_ (i := 2) rfl
  show d__law_agreements [.t (.lst (ii row)), .t (.lst (ii other)), .un, .un, .un, .un, .un] = _
  rw [d__law_agreements, dSeq_nx s1, dSeq_nx s2, dSeq_nx s3, dSeq_nx s4]
  exact dRet_eq (by simp only [E, den1, den2, gVar, gC, gAdd, gSub, gMod, gNeg, gIx, gLen, gAbs, gInt, gList, gTuple, gCat, L.lview, L.view, L.tree, L.hid, L.asBl, L.asInt, L.truth, dBl, dTru, gB, gEq, gNe, gLt_e, gLe_e, gGt_e, gGe_e, dCons, dNil, dTup, dLst, dSet, stoE, dRet, dDrop, dNot, dAnd, dOr, dYes, gNameT, gTupT, gConsT, gNilT, iEnumT, iSeq, iZipT, hideO, wipeE, restE, dMeth, isOwnL, fAppend, dSl, dSome, dNone, gSl, dCallP, allT, nor, finP, Option.bind_some, Option.map_some, List.getElem?_cons_zero, List.getElem?_cons_succ, List.set_cons_zero, List.set_cons_succ, List.length_cons, List.length_nil, List.map_cons, List.map_nil, List.replicate, List.cons_append, List.nil_append, List.append_nil, Option.toList_none, Option.toList_some])
end LK
namespace LK
open PySem LW
open L2 (atI ixN)

theorem ev_law_register {p : Int} {taps begun : List Int} {m : Nat} (hp : 0 < p) (ht : Sm taps) (hl : taps.length ≤ begun.length) (hz : taps.length ≤ 1000) (hm : m < 9000) (hb : begun.length ≤ m) :
    f__law_register [.int p, .lst (ii taps), .lst (ii begun), .int m] = some (.own (.lst (ii (grow p taps begun (m - begun.length))))) := by
  let E (r : List Int) (x y : L) : REnv := [.t (.int p), .t (.lst (ii taps)), .t (.lst (ii begun)), .t (.int m), .own (.lst (ii r)), x, y]
  have inner : ∀ (r : List Int) (x : L), taps.length ≤ r.length → compD (iRange1 (dCons (den1 gLen (gVar 1)) dNil)) [6] (gNameT 6) dYes (den2 gMul (den2 gIx (gVar 1) (gVar 6)) (den2 gIx (gVar 4) (den2 gSub (den1 gNeg (gC (.int 1))) (gVar 6)))) (E r x .un)
      = some (.own (.lst ((List.range taps.length).map fun i => T.int (taps.getD i 0 * r.getD (r.length - 1 - i) 0))), E r x .un) := by
    intro r x hr
    have e : (ii taps).length = taps.length := by simp [ii]
    refine compD_eq (xs := (List.range taps.length).map fun i => T.int (i : Nat)) (ho := none) (ρ1 := E r x .un) (iRange1_eq (by simp only [E, den1, den2, gVar, gC, gAdd, gSub, gMod, gNeg, gIx, gLen, gAbs, gInt, gList, gTuple, gCat, L.lview, L.view, L.tree, L.hid, L.asBl, L.asInt, L.truth, dBl, dTru, gB, gEq, gNe, gLt_e, gLe_e, gGt_e, gGe_e, dCons, dNil, dTup, dLst, dSet, stoE, dRet, dDrop, dNot, dAnd, dOr, dYes, gNameT, gTupT, gConsT, gNilT, iEnumT, iSeq, iZipT, hideO, wipeE, restE, dMeth, isOwnL, fAppend, dSl, dSome, dNone, gSl, dCallP, allT, nor, finP, Option.bind_some, Option.map_some, List.getElem?_cons_zero, List.getElem?_cons_succ, List.set_cons_zero, List.set_cons_succ, List.length_cons, List.length_nil, List.map_cons, List.map_nil, List.replicate, List.cons_append, List.nil_append, List.append_nil, Option.toList_none, Option.toList_some, e]) (by omega)) (compL_m _ _ _ fun i hi => ?_) ?_
    · have hi : i < taps.length := by simpa using hi
      have hx : 0 ≤ taps.getD i 0 ∧ taps.getD i 0 < 1000 := by
        have : taps.getD i 0 ∈ taps := by simp [hi]
        exact ht _ this
      have e1 := ix_ii hi
      have e2 : atI (ii r) (-1 - (i : Int)) = some (.int (r.getD (r.length - 1 - i) 0)) := by
        have := atI_intsN (ns := r) (i := -1 - (i : Int)) (by omega) (by omega)
        rw [this, show ((r.length : Int) + (-1 - (i : Int))).toNat = r.length - 1 - i by omega]
      have h2 : mulOk (taps.getD i 0) (r.getD (r.length - 1 - i) 0) = true := mulOk_small (by omega) (by omega)
      refine ⟨E r x (.t (.int i)), by simp only [E, den1, den2, gVar, gC, gAdd, gSub, gMod, gNeg, gIx, gLen, gAbs, gInt, gList, gTuple, gCat, L.lview, L.view, L.tree, L.hid, L.asBl, L.asInt, L.truth, dBl, dTru, gB, gEq, gNe, gLt_e, gLe_e, gGt_e, gGe_e, dCons, dNil, dTup, dLst, dSet, stoE, dRet, dDrop, dNot, dAnd, dOr, dYes, gNameT, gTupT, gConsT, gNilT, iEnumT, iSeq, iZipT, hideO, wipeE, restE, dMeth, isOwnL, fAppend, dSl, dSome, dNone, gSl, dCallP, allT, nor, finP, Option.bind_some, Option.map_some, List.getElem?_cons_zero, List.getElem?_cons_succ, List.set_cons_zero, List.set_cons_succ, List.length_cons, List.length_nil, List.map_cons, List.map_nil, List.replicate, List.cons_append, List.nil_append, List.append_nil, Option.toList_none, Option.toList_some, Nat.reduceAdd, Nat.reduceLT, if_true], .t (.int (taps.getD i 0 * r.getD (r.length - 1 - i) 0)), E r x (.t (.int i)), ?_, rfl, by simp only [E, den1, den2, gVar, gC, gAdd, gSub, gMod, gNeg, gIx, gLen, gAbs, gInt, gList, gTuple, gCat, L.lview, L.view, L.tree, L.hid, L.asBl, L.asInt, L.truth, dBl, dTru, gB, gEq, gNe, gLt_e, gLe_e, gGt_e, gGe_e, dCons, dNil, dTup, dLst, dSet, stoE, dRet, dDrop, dNot, dAnd, dOr, dYes, gNameT, gTupT, gConsT, gNilT, iEnumT, iSeq, iZipT, hideO, wipeE, restE, dMeth, isOwnL, fAppend, dSl, dSome, dNone, gSl, dCallP, allT, nor, finP, Option.bind_some, Option.map_some, List.getElem?_cons_zero, List.getElem?_cons_succ, List.set_cons_zero, List.set_cons_succ, List.length_cons, List.length_nil, List.map_cons, List.map_nil, List.replicate, List.cons_append, List.nil_append, List.append_nil, Option.toList_none, Option.toList_some]⟩
      simp only [E, den1, den2, gVar, gC, gAdd, gSub, gMod, gNeg, gIx, gLen, gAbs, gInt, gList, gTuple, gCat, L.lview, L.view, L.tree, L.hid, L.asBl, L.asInt, L.truth, dBl, dTru, gB, gEq, gNe, gLt_e, gLe_e, gGt_e, gGe_e, dCons, dNil, dTup, dLst, dSet, stoE, dRet, dDrop, dNot, dAnd, dOr, dYes, gNameT, gTupT, gConsT, gNilT, iEnumT, iSeq, iZipT, hideO, wipeE, restE, dMeth, isOwnL, fAppend, dSl, dSome, dNone, gSl, dCallP, allT, nor, finP, Option.bind_some, Option.map_some, List.getElem?_cons_zero, List.getElem?_cons_succ, List.set_cons_zero, List.set_cons_succ, List.length_cons, List.length_nil, List.map_cons, List.map_nil, List.replicate, List.cons_append, List.nil_append, List.append_nil, Option.toList_none, Option.toList_some, e1, e2, gMul_e _ h2]
    · simp [line]; omega
  obtain ⟨ρ', hf, last, rfl⟩ := forL_range (g := gNameT 5) (db := dDrop (dMeth 4 fAppend (dCons (den2 gMod (den1 gInt (den1 gSum (compD (iRange1 (dCons (den1 gLen (gVar 1)) dNil)) [6] (gNameT 6) dYes (den2 gMul (den2 gIx (gVar 1) (gVar 6)) (den2 gIx (gVar 4) (den2 gSub (den1 gNeg (gC (.int 1))) (gVar 6))))))) (gVar 0)) dNil)))
    (fun k ρ => ∃ last, ρ = E (grow p taps begun k) last .un) (m - begun.length) (by
      rintro s ρ hs ⟨last, rfl⟩
      refine ⟨E (grow p taps begun s) (.t (.int s)) .un, E (grow p taps begun (s + 1)) (.t (.int s)) .un, by simp only [E, den1, den2, gVar, gC, gAdd, gSub, gMod, gNeg, gIx, gLen, gAbs, gInt, gList, gTuple, gCat, L.lview, L.view, L.tree, L.hid, L.asBl, L.asInt, L.truth, dBl, dTru, gB, gEq, gNe, gLt_e, gLe_e, gGt_e, gGe_e, dCons, dNil, dTup, dLst, dSet, stoE, dRet, dDrop, dNot, dAnd, dOr, dYes, gNameT, gTupT, gConsT, gNilT, iEnumT, iSeq, iZipT, hideO, wipeE, restE, dMeth, isOwnL, fAppend, dSl, dSome, dNone, gSl, dCallP, allT, nor, finP, Option.bind_some, Option.map_some, List.getElem?_cons_zero, List.getElem?_cons_succ, List.set_cons_zero, List.set_cons_succ, List.length_cons, List.length_nil, List.map_cons, List.map_nil, List.replicate, List.cons_append, List.nil_append, List.append_nil, Option.toList_none, Option.toList_some, Nat.reduceAdd, Nat.reduceLT, if_true], ?_, _, rfl⟩
      have gl := grow_len p taps begun s
      have hi := inner (grow p taps begun s) (.t (.int s)) (by omega)
      have hs2 := asInts_f (fun i => taps.getD i 0 * (grow p taps begun s).getD ((grow p taps begun s).length - 1 - i) 0) (List.range taps.length)
      have hd : dCons (den2 gMod (den1 gInt (den1 gSum (compD (iRange1 (dCons (den1 gLen (gVar 1)) dNil)) [6] (gNameT 6) dYes (den2 gMul (den2 gIx (gVar 1) (gVar 6)) (den2 gIx (gVar 4) (den2 gSub (den1 gNeg (gC (.int 1))) (gVar 6))))))) (gVar 0)) dNil (E (grow p taps begun s) (.t (.int s)) .un) = some ([.int (dotR taps (grow p taps begun s) % p)], E (grow p taps begun s) (.t (.int s)) .un) := by
        have h1 : den1 gInt (den1 gSum (compD (iRange1 (dCons (den1 gLen (gVar 1)) dNil)) [6] (gNameT 6) dYes (den2 gMul (den2 gIx (gVar 1) (gVar 6)) (den2 gIx (gVar 4) (den2 gSub (den1 gNeg (gC (.int 1))) (gVar 6)))))) (E (grow p taps begun s) (.t (.int s)) .un) = some (.t (.int (dotR taps (grow p taps begun s))), E (grow p taps begun s) (.t (.int s)) .un) := by
          simp only [den1, hi, Option.bind_some, Option.map_some, gSum, L.lview, hs2, gInt, dotR]
        simp only [dCons, dNil, den2, h1, Option.bind_some, Option.map_some]
        simp only [E, den1, den2, gVar, gC, gAdd, gSub, gMod, gNeg, gIx, gLen, gAbs, gInt, gList, gTuple, gCat, L.lview, L.view, L.tree, L.hid, L.asBl, L.asInt, L.truth, dBl, dTru, gB, gEq, gNe, gLt_e, gLe_e, gGt_e, gGe_e, dCons, dNil, dTup, dLst, dSet, stoE, dRet, dDrop, dNot, dAnd, dOr, dYes, gNameT, gTupT, gConsT, gNilT, iEnumT, iSeq, iZipT, hideO, wipeE, restE, dMeth, isOwnL, fAppend, dSl, dSome, dNone, gSl, dCallP, allT, nor, finP, Option.bind_some, Option.map_some, List.getElem?_cons_zero, List.getElem?_cons_succ, List.set_cons_zero, List.set_cons_succ, List.length_cons, List.length_nil, List.map_cons, List.map_nil, List.replicate, List.cons_append, List.nil_append, List.append_nil, Option.toList_none, Option.toList_some, hp, if_true]
      have ha : fAppend (ii (grow p taps begun s)) [.int (dotR taps (grow p taps begun s) % p)] = some (.non, ii (grow p taps begun (s + 1))) := by
        rw [app_own (by simp [line]; omega), ii_app]
        rfl
      rw [dDrop, dMeth, hd]
      simp only [E, isOwnL, List.getElem?_cons_zero, List.getElem?_cons_succ, if_true, Option.bind_some, ha, Option.map_some, List.set_cons_zero, List.set_cons_succ]) (E begun .un .un) ⟨.un, rfl⟩
  have s1 : dSet 4 (den1 gList (gVar 2)) [.t (.int p), .t (.lst (ii taps)), .t (.lst (ii begun)), .t (.int m), .un, .un, .un] = some (.nx, E begun .un .un) := by
    simp only [E, den1, den2, gVar, gC, gAdd, gSub, gMod, gNeg, gIx, gLen, gAbs, gInt, gList, gTuple, gCat, L.lview, L.view, L.tree, L.hid, L.asBl, L.asInt, L.truth, dBl, dTru, gB, gEq, gNe, gLt_e, gLe_e, gGt_e, gGe_e, dCons, dNil, dTup, dLst, dSet, stoE, dRet, dDrop, dNot, dAnd, dOr, dYes, gNameT, gTupT, gConsT, gNilT, iEnumT, iSeq, iZipT, hideO, wipeE, restE, dMeth, isOwnL, fAppend, dSl, dSome, dNone, gSl, dCallP, allT, nor, finP, Option.bind_some, Option.map_some, List.getElem?_cons_zero, List.getElem?_cons_succ, List.set_cons_zero, List.set_cons_succ, List.length_cons, List.length_nil, List.map_cons, List.map_nil, List.replicate, List.cons_append, List.nil_append, List.append_nil, Option.toList_none, Option.toList_some, Nat.reduceAdd, Nat.reduceLT, if_true]
  have s2 := dFor_eq (as := [5]) (iRange1_eq (d := den2 gSub (gVar 3) (den1 gLen (gVar 2))) (ρ := E begun .un .un) (ρ' := E begun .un .un) (n := m - begun.length) (by
    have e : (m : Int) - ((ii begun).length : Nat) = ((m - begun.length : Nat) : Int) := by simp only [ii, List.length_map]; omega
    simp only [E, den1, den2, gVar, gC, gAdd, gSub, gMod, gNeg, gIx, gLen, gAbs, gInt, gList, gTuple, gCat, L.lview, L.view, L.tree, L.hid, L.asBl, L.asInt, L.truth, dBl, dTru, gB, gEq, gNe, gLt_e, gLe_e, gGt_e, gGe_e, dCons, dNil, dTup, dLst, dSet, stoE, dRet, dDrop, dNot, dAnd, dOr, dYes, gNameT, gTupT, gConsT, gNilT, iEnumT, iSeq, iZipT, hideO, wipeE, restE, dMeth, isOwnL, fAppend, dSl, dSome, dNone, gSl, dCallP, allT, nor, finP, Option.bind_some, Option.map_some, List.getElem?_cons_zero, List.getElem?_cons_succ, List.set_cons_zero, List.set_cons_succ, List.length_cons, List.length_nil, List.map_cons, List.map_nil, List.replicate, List.cons_append, List.nil_append, List.append_nil, Option.toList_none, Option.toList_some, e]) (by omega)) hf
  refine bodyP_ref (ρ' := E (grow p taps begun (m - begun.length)) last .un) rfl ?_ (i := 4) rfl
  show d__law_register [.t (.int p), .t (.lst (ii taps)), .t (.lst (ii begun)), .t (.int m), .un, .un, .un] = _
  rw [d__law_register, dSeq_nx s1, dSeq_nx s2]
  exact dRet_eq (by simp only [E, den1, den2, gVar, gC, gAdd, gSub, gMod, gNeg, gIx, gLen, gAbs, gInt, gList, gTuple, gCat, L.lview, L.view, L.tree, L.hid, L.asBl, L.asInt, L.truth, dBl, dTru, gB, gEq, gNe, gLt_e, gLe_e, gGt_e, gGe_e, dCons, dNil, dTup, dLst, dSet, stoE, dRet, dDrop, dNot, dAnd, dOr, dYes, gNameT, gTupT, gConsT, gNilT, iEnumT, iSeq, iZipT, hideO, wipeE, restE, dMeth, isOwnL, fAppend, dSl, dSome, dNone, gSl, dCallP, allT, nor, finP, Option.bind_some, Option.map_some, List.getElem?_cons_zero, List.getElem?_cons_succ, List.set_cons_zero, List.set_cons_succ, List.length_cons, List.length_nil, List.map_cons, List.map_nil, List.replicate, List.cons_append, List.nil_append, List.append_nil, Option.toList_none, Option.toList_some])
def thn (row : List Int) (step k : Nat) : List Int := (List.range k).map fun i => row.getD (i * step % row.length) 0
theorem ev_thinned {row : List Int} {step : Nat} (h0 : 0 < row.length) (hz : row.length < 1000) (hs : step < 1000) :
    f_thinned [.lst (ii row), .int step] = some (.own (.lst (ii (thn row step (row.length / Nat.gcd row.length step))))) := by
  let E (x : L) : REnv := [.t (.lst (ii row)), .t (.int step), .t (.int row.length), x]
  have hg : 0 < Nat.gcd row.length step := Nat.gcd_pos_of_pos_left _ h0
  have hg2 : Nat.gcd row.length step ≤ row.length := Nat.gcd_le_left _ h0
  have hd : row.length / Nat.gcd row.length step ≤ row.length := Nat.div_le_self _ _
  have src : den2 gDiv (gVar 2) (dCallP 2 f_greatest_common (dCons (gVar 2) (dCons (gVar 1) dNil))) (E .un) = some (.t (.int ((row.length / Nat.gcd row.length step : Nat) : Int)), E .un) := by
    have e := ev_greatest_common row.length step hs
    have e2 : ((row.length : Int) / (Nat.gcd row.length step : Nat)) = ((row.length / Nat.gcd row.length step : Nat) : Int) := by simp
    have c1 : (0 : Int) < (Nat.gcd row.length step : Nat) := by omega
    have c2 : ((Nat.gcd row.length step : Nat) : Int) < 1073741824 := by omega
    rw [← e2]
    exact den2_eq (l1 := .t (.int row.length)) (ρ1 := E .un) rfl (dCallP_eq (ts := [.int row.length, .int step]) (ρ1 := E .un) (dCons_eq (l := .t (.int row.length)) (ρ1 := E .un) rfl rfl (dCons_eq (l := .t (.int step)) (ρ1 := E .un) rfl rfl rfl)) rfl e rfl) (gDiv_e _ c1 c2)
  have hc : compD (iRange1 (dCons (den2 gDiv (gVar 2) (dCallP 2 f_greatest_common (dCons (gVar 2) (dCons (gVar 1) dNil)))) dNil)) [3] (gNameT 3) dYes (den2 gIx (gVar 0) (den2 gMod (den2 gMul (gVar 3) (gVar 1)) (gVar 2))) (E .un)
      = some (.own (.lst ((List.range (row.length / Nat.gcd row.length step)).map fun i => T.int (row.getD (i * step % row.length) 0))), E .un) := by
    refine compD_eq (xs := (List.range (row.length / Nat.gcd row.length step)).map fun i => T.int (i : Nat)) (ho := none) (ρ1 := E .un) (iRange1_eq src (by omega)) (compL_m _ _ _ fun i hi => ?_) ?_
    · have hi : i < row.length / Nat.gcd row.length step := by simpa using hi
      have e1 := ix_ii (row := row) (i := i * step % row.length) (Nat.mod_lt _ h0)
      have e2 : ((i : Int) * step) % row.length = ((i * step % row.length : Nat) : Int) := by simp
      have h2 : mulOk (i : Int) (step : Int) = true := mulOk_small (by omega) (by omega)
      have c1 : (0 : Int) < row.length := by omega
      refine ⟨E (.t (.int i)), by simp only [E, den1, den2, gVar, gC, gAdd, gSub, gMod, gNeg, gIx, gLen, gAbs, gInt, gList, gTuple, gCat, L.lview, L.view, L.tree, L.hid, L.asBl, L.asInt, L.truth, dBl, dTru, gB, gEq, gNe, gLt_e, gLe_e, gGt_e, gGe_e, dCons, dNil, dTup, dLst, dSet, stoE, dRet, dDrop, dNot, dAnd, dOr, dYes, gNameT, gTupT, gConsT, gNilT, iEnumT, iSeq, iZipT, hideO, wipeE, restE, dMeth, isOwnL, fAppend, dSl, dSome, dNone, gSl, dCallP, allT, nor, finP, Option.bind_some, Option.map_some, List.getElem?_cons_zero, List.getElem?_cons_succ, List.set_cons_zero, List.set_cons_succ, List.length_cons, List.length_nil, List.map_cons, List.map_nil, List.replicate, List.cons_append, List.nil_append, List.append_nil, Option.toList_none, Option.toList_some, Nat.reduceAdd, Nat.reduceLT, if_true], .t (.int (row.getD (i * step % row.length) 0)), E (.t (.int i)), ?_, rfl, by simp only [E, den1, den2, gVar, gC, gAdd, gSub, gMod, gNeg, gIx, gLen, gAbs, gInt, gList, gTuple, gCat, L.lview, L.view, L.tree, L.hid, L.asBl, L.asInt, L.truth, dBl, dTru, gB, gEq, gNe, gLt_e, gLe_e, gGt_e, gGe_e, dCons, dNil, dTup, dLst, dSet, stoE, dRet, dDrop, dNot, dAnd, dOr, dYes, gNameT, gTupT, gConsT, gNilT, iEnumT, iSeq, iZipT, hideO, wipeE, restE, dMeth, isOwnL, fAppend, dSl, dSome, dNone, gSl, dCallP, allT, nor, finP, Option.bind_some, Option.map_some, List.getElem?_cons_zero, List.getElem?_cons_succ, List.set_cons_zero, List.set_cons_succ, List.length_cons, List.length_nil, List.map_cons, List.map_nil, List.replicate, List.cons_append, List.nil_append, List.append_nil, Option.toList_none, Option.toList_some]⟩
      have hm : den2 gMul (gVar 3) (gVar 1) (E (.t (.int i))) = some (.t (.int ((i : Int) * step)), E (.t (.int i))) := den2_eq (l1 := .t (.int i)) (ρ1 := E (.t (.int i))) rfl (l2 := .t (.int step)) rfl (gMul_e _ h2)
      have hmod : den2 gMod (den2 gMul (gVar 3) (gVar 1)) (gVar 2) (E (.t (.int i))) = some (.t (.int (((i : Int) * step) % row.length)), E (.t (.int i))) := den2_eq hm (l2 := .t (.int row.length)) rfl (gMod_e _ c1)
      rw [e2] at hmod
      exact den2_eq (l1 := .t (.lst (ii row))) (ρ1 := E (.t (.int i))) rfl hmod (gIx_l _ e1)
    · simp only [List.length_map, List.length_range, line]; omega
  have s1 : dSet 2 (den1 gLen (gVar 0)) [.t (.lst (ii row)), .t (.int step), .un, .un] = some (.nx, E .un) := by
    have e : (ii row).length = row.length := by simp [ii]
    simp only [E, den1, den2, gVar, gC, gAdd, gSub, gMod, gNeg, gIx, gLen, gAbs, gInt, gList, gTuple, gCat, L.lview, L.view, L.tree, L.hid, L.asBl, L.asInt, L.truth, dBl, dTru, gB, gEq, gNe, gLt_e, gLe_e, gGt_e, gGe_e, dCons, dNil, dTup, dLst, dSet, stoE, dRet, dDrop, dNot, dAnd, dOr, dYes, gNameT, gTupT, gConsT, gNilT, iEnumT, iSeq, iZipT, hideO, wipeE, restE, dMeth, isOwnL, fAppend, dSl, dSome, dNone, gSl, dCallP, allT, nor, finP, Option.bind_some, Option.map_some, List.getElem?_cons_zero, List.getElem?_cons_succ, List.set_cons_zero, List.set_cons_succ, List.length_cons, List.length_nil, List.map_cons, List.map_nil, List.replicate, List.cons_append, List.nil_append, List.append_nil, Option.toList_none, Option.toList_some, e, Nat.reduceAdd, Nat.reduceLT, if_true]
  rw [show ii (thn row step (row.length / Nat.gcd row.length step)) = (List.range (row.length / Nat.gcd row.length step)).map fun i => T.int (row.getD (i * step % row.length) 0) by rw [ii, thn, List.map_map]; rfl]
  refine bodyP_own (ρ' := E .un) rfl ?_
  show d_thinned [.t (.lst (ii row)), .t (.int step), .un, .un] = _
  rw [d_thinned, dSeq_nx s1]
  exact dRet_eq hc
end LK
namespace LK
open PySem LW
open L2 (atI ixN)

theorem thin_zero {n step k : Nat} (hn : 0 < n) (hk : 0 < k) (hkK : k ≤ n / Nat.gcd n step) : k * step % n = 0 ↔ k = n / Nat.gcd n step := by
  have hg : 0 < Nat.gcd n step := Nat.gcd_pos_of_pos_left _ hn
  have cop : Nat.Coprime (n / Nat.gcd n step) (step / Nat.gcd n step) := Nat.coprime_div_gcd_div_gcd hg
  have e1 : n = Nat.gcd n step * (n / Nat.gcd n step) := (Nat.mul_div_cancel' (Nat.gcd_dvd_left n step)).symm
  have e2 : step = Nat.gcd n step * (step / Nat.gcd n step) := (Nat.mul_div_cancel' (Nat.gcd_dvd_right n step)).symm
  constructor
  · intro h
    have h1 : n ∣ k * step := Nat.dvd_of_mod_eq_zero h
    have h2 : Nat.gcd n step * (n / Nat.gcd n step) ∣ Nat.gcd n step * (k * (step / Nat.gcd n step)) := by
      have : Nat.gcd n step * (k * (step / Nat.gcd n step)) = k * step := by
        rw [Nat.mul_left_comm, ← e2]
      rw [this, ← e1]
      exact h1
    have h3 : n / Nat.gcd n step ∣ k * (step / Nat.gcd n step) := Nat.dvd_of_mul_dvd_mul_left hg h2
    have h4 : n / Nat.gcd n step ∣ k := cop.dvd_of_dvd_mul_right h3
    have := Nat.le_of_dvd hk h4
    omega
  · intro h
    refine Nat.mod_eq_zero_of_dvd ⟨step / Nat.gcd n step, ?_⟩
    rw [h]
    have : n / Nat.gcd n step * step = n / Nat.gcd n step * (Nat.gcd n step * (step / Nat.gcd n step)) := by rw [← e2]
    rw [this, ← Nat.mul_assoc, Nat.mul_comm (n / Nat.gcd n step) (Nat.gcd n step), ← e1]
theorem ev_law_thinned {row : List Int} {step : Nat} (h0 : 0 < row.length) (hz : row.length < 1000) (hs : step < 1000) :
    f__law_thinned [.lst (ii row), .int step] = some (.own (.lst (ii (thn row step (row.length / Nat.gcd row.length step))))) := by
  let E (j : Nat) (x : L) : REnv := [.t (.lst (ii row)), .t (.int step), .own (.lst (ii (thn row step j))), .t (.int ((j * step % row.length : Nat) : Int)), x]
  have hg : 0 < Nat.gcd row.length step := Nat.gcd_pos_of_pos_left _ h0
  have hK : 0 < row.length / Nat.gcd row.length step := Nat.div_pos (Nat.gcd_le_left _ h0) hg
  have hK2 : row.length / Nat.gcd row.length step ≤ row.length := Nat.div_le_self _ _
  obtain ⟨ρ', hf, last, rfl⟩ := forL_brk (g := gNameT 4) (db := dSeq (dDrop (dMeth 2 fAppend (dCons (den2 gIx (gVar 0) (gVar 3)) dNil)))
  (dSeq (dSet 3 (den2 gMod (den1 gInt (den2 gAdd (gVar 3) (gVar 1))) (den1 gLen (gVar 0))))
  (dIfS (dBl (den2 (gB gEq) (gVar 3) (gC (.int 0)))) dBrk dNx)))
    (t := fun i : Nat => T.int (i : Nat)) (fun j ρ => ∃ last, ρ = E j last) (row.length / Nat.gcd row.length step) (by
      rintro j a ρ hj ⟨last, rfl⟩
      refine ⟨E j (.t (.int a)), E (j + 1) (.t (.int a)), by simp only [E, den1, den2, gVar, gC, gAdd, gSub, gMod, gNeg, gIx, gLen, gAbs, gInt, gList, gTuple, gCat, L.lview, L.view, L.tree, L.hid, L.asBl, L.asInt, L.truth, dBl, dTru, gB, gEq, gNe, gLt_e, gLe_e, gGt_e, gGe_e, dCons, dNil, dTup, dLst, dSet, stoE, dRet, dDrop, dNot, dAnd, dOr, dYes, gNameT, gTupT, gConsT, gNilT, iEnumT, iSeq, iZipT, hideO, wipeE, restE, dMeth, isOwnL, fAppend, dSl, dSome, dNone, gSl, dCallP, allT, nor, finP, Option.bind_some, Option.map_some, List.getElem?_cons_zero, List.getElem?_cons_succ, List.set_cons_zero, List.set_cons_succ, List.length_cons, List.length_nil, List.map_cons, List.map_nil, List.replicate, List.cons_append, List.nil_append, List.append_nil, Option.toList_none, Option.toList_some, Nat.reduceAdd, Nat.reduceLT, if_true], ?_, _, rfl⟩
      have e1 := ix_ii (row := row) (i := j * step % row.length) (Nat.mod_lt _ h0)
      have ha : fAppend (ii (thn row step j)) [.int (row.getD (j * step % row.length) 0)] = some (.non, ii (thn row step (j + 1))) := by
        have : (ii (thn row step j)).length < line := by
          have : (ii (thn row step j)).length = j := by simp [ii, thn]
          rw [this]; simp only [line]; omega
        rw [app_own this, thn, thn, List.range_succ, List.map_append, ii_app]
        rfl
      have s1 : dDrop (dMeth 2 fAppend (dCons (den2 gIx (gVar 0) (gVar 3)) dNil)) (E j (.t (.int a))) = some (.nx, [.t (.lst (ii row)), .t (.int step), .own (.lst (ii (thn row step (j + 1)))), .t (.int ((j * step % row.length : Nat) : Int)), .t (.int a)]) := by
        have hd : dCons (den2 gIx (gVar 0) (gVar 3)) dNil (E j (.t (.int a))) = some ([.int (row.getD (j * step % row.length) 0)], E j (.t (.int a))) :=
          dCons_eq (den2_eq (l1 := .t (.lst (ii row))) (ρ1 := E j (.t (.int a))) rfl (l2 := .t (.int ((j * step % row.length : Nat) : Int))) rfl (gIx_l _ e1)) rfl rfl
        rw [dDrop, dMeth, hd]
        simp only [E, isOwnL, List.getElem?_cons_zero, List.getElem?_cons_succ, if_true, Option.bind_some, ha, Option.map_some, List.set_cons_zero, List.set_cons_succ]
      have e3 : (((j * step % row.length : Nat) : Int) + step) % row.length = (((j + 1) * step % row.length : Nat) : Int) := by
        rw [Nat.add_mul, Nat.one_mul, Nat.add_mod]
        have : ((j * step % row.length : Nat) : Int) + step = ((j * step % row.length + step : Nat) : Int) := by simp
        rw [this]
        have : ((j * step % row.length + step : Nat) : Int) % row.length = (((j * step % row.length + step) % row.length : Nat) : Int) := by simp
        rw [this]
        congr 1
        rw [Nat.add_mod, Nat.mod_mod]
      have c1 : (0 : Int) < row.length := by omega
      let F : REnv := [.t (.lst (ii row)), .t (.int step), .own (.lst (ii (thn row step (j + 1)))), .t (.int ((j * step % row.length : Nat) : Int)), .t (.int a)]
      have s2 : dSet 3 (den2 gMod (den1 gInt (den2 gAdd (gVar 3) (gVar 1))) (den1 gLen (gVar 0))) F = some (.nx, E (j + 1) (.t (.int a))) := by
        have a1 : den1 gInt (den2 gAdd (gVar 3) (gVar 1)) F = some (.t (.int (((j * step % row.length : Nat) : Int) + step)), F) := den1_eq (den2_eq (l1 := .t (.int ((j * step % row.length : Nat) : Int))) (ρ1 := F) rfl (l2 := .t (.int step)) (ρ2 := F) rfl rfl) rfl
        have a2 : den1 gLen (gVar 0) F = some (.t (.int row.length), F) := by
          have e : (ii row).length = row.length := by simp [ii]
          exact den1_eq (l1 := .t (.lst (ii row))) (ρ1 := F) rfl (by simp only [gLen, L.lview, e, Option.map_some])
        have a3 := den2_eq a1 a2 (gMod_e _ c1)
        rw [e3] at a3
        exact dSet_t a3 (show 3 < 5 from by decide)
      rw [dSeq_nx s1]
      show dSeq _ _ F = _
      rw [dSeq_nx s2]
      have tz := thin_zero h0 (k := j + 1) (step := step) (by omega) (by omega)
      have s3 : dBl (den2 (gB gEq) (gVar 3) (gC (.int 0))) (E (j + 1) (.t (.int a))) = some (decide ((((j + 1) * step % row.length : Nat) : Int) = 0), E (j + 1) (.t (.int a))) := by
        simp only [E, den1, den2, gVar, gC, gAdd, gSub, gMod, gNeg, gIx, gLen, gAbs, gInt, gList, gTuple, gCat, L.lview, L.view, L.tree, L.hid, L.asBl, L.asInt, L.truth, dBl, dTru, gB, gEq, gNe, gLt_e, gLe_e, gGt_e, gGe_e, dCons, dNil, dTup, dLst, dSet, stoE, dRet, dDrop, dNot, dAnd, dOr, dYes, gNameT, gTupT, gConsT, gNilT, iEnumT, iSeq, iZipT, hideO, wipeE, restE, dMeth, isOwnL, fAppend, dSl, dSome, dNone, gSl, dCallP, allT, nor, finP, Option.bind_some, Option.map_some, List.getElem?_cons_zero, List.getElem?_cons_succ, List.set_cons_zero, List.set_cons_succ, List.length_cons, List.length_nil, List.map_cons, List.map_nil, List.replicate, List.cons_append, List.nil_append, List.append_nil, Option.toList_none, Option.toList_some, eqOk_int, eqv_int, if_true]
      by_cases hjk : j + 1 = row.length / Nat.gcd row.length step
      · have : (j + 1) * step % row.length = 0 := tz.mpr hjk
        rw [if_pos hjk]
        rw [this] at s3
        exact dIfS_t s3
      · have : ¬ (j + 1) * step % row.length = 0 := fun z => hjk (tz.mp z)
        rw [if_neg hjk]
        have : ¬ ((((j + 1) * step % row.length : Nat) : Int) = 0) := by omega
        rw [decide_eq_false this] at s3
        exact dIfS_f s3) (List.range row.length) 0 hK (by simp; omega) (E 0 .un) ⟨.un, rfl⟩
  have s1 : dSet 2 (dLst dNil) [.t (.lst (ii row)), .t (.int step), .un, .un, .un] = some (.nx, [.t (.lst (ii row)), .t (.int step), .own (.lst []), .un, .un]) := by
    simp only [den1, den2, gVar, gC, gAdd, gSub, gMod, gNeg, gIx, gLen, gAbs, gInt, gList, gTuple, gCat, L.lview, L.view, L.tree, L.hid, L.asBl, L.asInt, L.truth, dBl, dTru, gB, gEq, gNe, gLt_e, gLe_e, gGt_e, gGe_e, dCons, dNil, dTup, dLst, dSet, stoE, dRet, dDrop, dNot, dAnd, dOr, dYes, gNameT, gTupT, gConsT, gNilT, iEnumT, iSeq, iZipT, hideO, wipeE, restE, dMeth, isOwnL, fAppend, dSl, dSome, dNone, gSl, dCallP, allT, nor, finP, Option.bind_some, Option.map_some, List.getElem?_cons_zero, List.getElem?_cons_succ, List.set_cons_zero, List.set_cons_succ, List.length_cons, List.length_nil, List.map_cons, List.map_nil, List.replicate, List.cons_append, List.nil_append, List.append_nil, Option.toList_none, Option.toList_some, Nat.reduceAdd, Nat.reduceLT, if_true, Nat.zero_le]
  have s2 : dSet 3 (gC (.int 0)) [.t (.lst (ii row)), .t (.int step), .own (.lst []), .un, .un] = some (.nx, E 0 .un) := by
    have e : ((0 * step % row.length : Nat) : Int) = 0 := by simp
    have e2 : thn row step 0 = [] := rfl
    simp only [E, e, e2, den1, den2, gVar, gC, gAdd, gSub, gMod, gNeg, gIx, gLen, gAbs, gInt, gList, gTuple, gCat, L.lview, L.view, L.tree, L.hid, L.asBl, L.asInt, L.truth, dBl, dTru, gB, gEq, gNe, gLt_e, gLe_e, gGt_e, gGe_e, dCons, dNil, dTup, dLst, dSet, stoE, dRet, dDrop, dNot, dAnd, dOr, dYes, gNameT, gTupT, gConsT, gNilT, iEnumT, iSeq, iZipT, hideO, wipeE, restE, dMeth, isOwnL, fAppend, dSl, dSome, dNone, gSl, dCallP, allT, nor, finP, Option.bind_some, Option.map_some, List.getElem?_cons_zero, List.getElem?_cons_succ, List.set_cons_zero, List.set_cons_succ, List.length_cons, List.length_nil, List.map_cons, List.map_nil, List.replicate, List.cons_append, List.nil_append, List.append_nil, Option.toList_none, Option.toList_some, Nat.reduceAdd, Nat.reduceLT, if_true, ii, List.map_nil]
  have s3 := dFor_eq (as := [4, 3]) (iRange1_eq (d := den1 gLen (gVar 0)) (ρ := E 0 .un) (ρ' := E 0 .un) (n := row.length) (by
    have e : (ii row).length = row.length := by simp [ii]
    exact den1_eq (l1 := .t (.lst (ii row))) (ρ1 := E 0 .un) rfl (by simp only [gLen, L.lview, e, Option.map_some])) (by omega)) hf
  refine bodyP_ref (ρ' := E (row.length / Nat.gcd row.length step) last) rfl ?_ (i := 2) rfl
  show d__law_thinned [.t (.lst (ii row)), .t (.int step), .un, .un, .un] = _
  rw [d__law_thinned, dSeq_nx s1, dSeq_nx s2, dSeq_nx s3]
  exact dRet_eq (l := .ref 2) rfl
end LK
namespace LK
open PySem LW
open L2 (atI ixN)

/-! ### _law_alike of a value and itself -/
mutual
/-- ints, None, lists and tuples of such -/
def okT : T → Bool
  | .int _ => true
  | .non => true
  | .lst xs => okTs xs && decide (xs.length < 10000)
  | .tup xs => okTs xs && decide (xs.length < 10000)
  | _ => false
def okTs : List T → Bool
  | [] => true
  | x :: xs => okT x && okTs xs
end
theorem okTs_mem : ∀ {xs : List T} {x : T}, okTs xs = true → x ∈ xs → okT x = true
  | y :: ys, x, h, hx => by
    simp only [okTs, Bool.and_eq_true] at h
    rcases List.mem_cons.mp hx with rfl | hx
    · exact h.1
    · exact okTs_mem h.2 hx
theorem deps_mem : ∀ {xs : List T} {x : T}, x ∈ xs → x.dep ≤ T.deps xs
  | y :: ys, x, hx => by
    simp only [T.deps]
    rcases List.mem_cons.mp hx with rfl | hx
    · omega
    · have := deps_mem hx; omega
/-- the part for lists and tuples -/
theorem alike_seq {fr : List T → Option L} {x : T} {xs : List T} (hx : x = .lst xs ∨ x = .tup xs) (hz : xs.length < 10000) (hfr : ∀ y ∈ xs, fr [y, y] = some (.t (.bl true))) :
    bodyP 2 3 (d__law_alike fr) [x, x] = some (.t (.bl true)) := by
  let E (z : L) : REnv := [.t x, .t x, z]
  have src : den1 gLen (gVar 1) (E .un) = some (.t (.int xs.length), E .un) := by
    rcases hx with rfl | rfl
    · exact den1_eq (l1 := .t (.lst xs)) (ρ1 := E .un) rfl rfl
    · exact den1_eq (l1 := .t (.tup xs)) (ρ1 := E .un) rfl rfl
  have src0 : den1 gLen (gVar 0) (E .un) = some (.t (.int xs.length), E .un) := by
    rcases hx with rfl | rfl
    · exact den1_eq (l1 := .t (.lst xs)) (ρ1 := E .un) rfl rfl
    · exact den1_eq (l1 := .t (.tup xs)) (ρ1 := E .un) rfl rfl
  have fe : (List.range xs.length).filter (fun _ => false) = [] := List.filter_eq_nil_iff.mpr (fun _ _ h => by cases h)
  have comp : compD (iRange1 (dCons (den1 gLen (gVar 1)) dNil)) [2] (gNameT 2) (dNot (dTru (dCallP 2 fr (dCons (den2 gIx (gVar 0) (gVar 2)) (dCons (den2 gIx (gVar 1) (gVar 2)) dNil))))) (gVar 2) (E .un)
      = some (.own (.lst (((List.range xs.length).filter fun _ => false).map fun i => T.int (i : Nat))), E .un) := by
    refine compD_eq (xs := (List.range xs.length).map fun i => T.int (i : Nat)) (ho := none) (ρ1 := E .un) (iRange1_eq src hz) (compL_fm _ (fun _ => false) (fun i : Nat => T.int (i : Nat)) _ fun i hi => ?_) (by rw [fe]; exact Nat.zero_le _)
    have hi : i < xs.length := by simpa using hi
    have hm : xs[i] ∈ xs := List.getElem_mem hi
    have ea : atI xs (i : Int) = some xs[i] := L2.atI_nat (List.getElem?_eq_getElem hi)
    refine ⟨E (.t (.int i)), E (.t (.int i)), by simp only [E, den1, den2, gVar, gC, gAdd, gSub, gMod, gNeg, gIx, gLen, gAbs, gInt, gList, gTuple, gCat, L.lview, L.view, L.tree, L.hid, L.asBl, L.asInt, L.truth, dBl, dTru, gB, gEq, gNe, gLt_e, gLe_e, gGt_e, gGe_e, dCons, dNil, dTup, dLst, dSet, stoE, dRet, dDrop, dNot, dAnd, dOr, dYes, gNameT, gTupT, gConsT, gNilT, iEnumT, iSeq, iZipT, hideO, wipeE, restE, dMeth, isOwnL, fAppend, dSl, dSome, dNone, gSl, dCallP, allT, nor, finP, Option.bind_some, Option.map_some, List.getElem?_cons_zero, List.getElem?_cons_succ, List.set_cons_zero, List.set_cons_succ, List.length_cons, List.length_nil, List.map_cons, List.map_nil, List.replicate, List.cons_append, List.nil_append, List.append_nil, Option.toList_none, Option.toList_some, Nat.reduceAdd, Nat.reduceLT, if_true], ?_, (fun z => by cases z), fun _ => by simp only [E, den1, den2, gVar, gC, gAdd, gSub, gMod, gNeg, gIx, gLen, gAbs, gInt, gList, gTuple, gCat, L.lview, L.view, L.tree, L.hid, L.asBl, L.asInt, L.truth, dBl, dTru, gB, gEq, gNe, gLt_e, gLe_e, gGt_e, gGe_e, dCons, dNil, dTup, dLst, dSet, stoE, dRet, dDrop, dNot, dAnd, dOr, dYes, gNameT, gTupT, gConsT, gNilT, iEnumT, iSeq, iZipT, hideO, wipeE, restE, dMeth, isOwnL, fAppend, dSl, dSome, dNone, gSl, dCallP, allT, nor, finP, Option.bind_some, Option.map_some, List.getElem?_cons_zero, List.getElem?_cons_succ, List.set_cons_zero, List.set_cons_succ, List.length_cons, List.length_nil, List.map_cons, List.map_nil, List.replicate, List.cons_append, List.nil_append, List.append_nil, Option.toList_none, Option.toList_some]⟩
    have ix : ∀ k : Nat, (k = 0 ∨ k = 1) → den2 gIx (gVar k) (gVar 2) (E (.t (.int i))) = some (.t xs[i], E (.t (.int i))) := by
      rintro k hk
      have hv : gVar k (E (.t (.int i))) = some (.t x, E (.t (.int i))) := by rcases hk with rfl | rfl <;> rfl
      refine den2_eq hv (l2 := .t (.int i)) (ρ2 := E (.t (.int i))) rfl ?_
      rcases hx with rfl | rfl
      · exact gIx_l _ ea
      · simp only [gIx, ea, Option.map_some]
    have call : dCallP 2 fr (dCons (den2 gIx (gVar 0) (gVar 2)) (dCons (den2 gIx (gVar 1) (gVar 2)) dNil)) (E (.t (.int i))) = some (.t (.bl true), E (.t (.int i))) := dCallP_eq (dCons_eq (ix 0 (.inl rfl)) rfl (dCons_eq (ix 1 (.inr rfl)) rfl (ρ2 := E (.t (.int i))) (ts := []) rfl)) rfl (hfr _ hm) rfl
    simp only [dNot, dTru, call, Option.bind_some, L.truth, Option.map_some, Bool.not_true]
  have fin : den2 (gB gEq) (den1 gLen (compD (iRange1 (dCons (den1 gLen (gVar 1)) dNil)) [2] (gNameT 2) (dNot (dTru (dCallP 2 fr (dCons (den2 gIx (gVar 0) (gVar 2)) (dCons (den2 gIx (gVar 1) (gVar 2)) dNil))))) (gVar 2))) (gC (.int 0)) (E .un) = some (.t (.bl true), E .un) := by
    refine den2_eq (den1_eq comp rfl) (l2 := .t (.int 0)) (ρ2 := E .un) rfl ?_
    rw [fe]
    rfl
  have q0 : gVar 0 (E .un) = some (.t x, E .un) := rfl
  have q1 : gVar 1 (E .un) = some (.t x, E .un) := rfl
  have ne0 : den2 (gB gNe) (den1 gLen (gVar 0)) (den1 gLen (gVar 1)) (E .un) = some (.t (.bl false), E .un) := den2_eq src0 src (by
    simp only [gB, gNe, gEq, L.view, eqOk_int, if_true, Option.map_some, eqv_int, decide_true, Bool.not_true])
  have t1 : dOr (dTru (den1 (gIsi "list") (gVar 1))) (dTru (den1 (gIsi "tuple") (gVar 1))) (E .un) = some (true, E .un) := by
    rcases hx with rfl | rfl <;> rfl
  have t2 : dOr (dBl (den2 (gB gNe) (den1 (gIsi "list") (gVar 0)) (den1 (gIsi "list") (gVar 1)))) (dBl (den2 (gB gNe) (den1 (gIsi "tuple") (gVar 0)) (den1 (gIsi "tuple") (gVar 1)))) (E .un) = some (false, E .un) := by
    rcases hx with rfl | rfl <;> rfl
  have t3 : dBl (den2 (gB gNe) (den1 gLen (gVar 0)) (den1 gLen (gVar 1))) (E .un) = some (false, E .un) := by
    simp only [dBl, ne0, Option.bind_some, L.asBl, Option.map_some]
  refine bodyP_t (ρ' := E .un) rfl ?_
  show d__law_alike fr (E .un) = _
  rw [d__law_alike]
  refine dSeq_ret ?_
  rw [dIfS_t t1, dSeq_nx (ρ' := E .un) (by rw [dIfS_f t2]; rfl), dSeq_nx (ρ' := E .un) (by rw [dIfS_f t3]; rfl)]
  exact dRet_eq fin
theorem alike_flat {fr : List T → Option L} {x : T} (hx : x = .non ∨ ∃ i, x = .int i) : bodyP 2 3 (d__law_alike fr) [x, x] = some (.t (.bl true)) := by
  rcases hx with rfl | ⟨i, rfl⟩
  · rfl
  · refine bodyP_t (ρ' := [.t (.int i), .t (.int i), .un]) rfl ?_
    show d__law_alike fr [.t (.int i), .t (.int i), .un] = _
    have e : den2 (gB gEq) (gVar 0) (gVar 1) [.t (.int i), .t (.int i), .un] = some (.t (.bl true), [.t (.int i), .t (.int i), .un]) := den2_eq (l1 := .t (.int i)) (l2 := .t (.int i)) (ρ1 := [.t (.int i), .t (.int i), .un]) rfl rfl (by
      simp only [gB, gEq, L.view, eqOk_int, if_true, Option.map_some, eqv_int, decide_true])
    rw [d__law_alike]
    rw [dSeq_nx (ρ' := [.t (.int i), .t (.int i), .un]) rfl, dSeq_nx (ρ' := [.t (.int i), .t (.int i), .un]) rfl, dSeq_nx (ρ' := [.t (.int i), .t (.int i), .un]) rfl]
    refine dSeq_ret ?_
    rw [dIfS_t (ρ' := [.t (.int i), .t (.int i), .un]) rfl]
    refine dRet_eq (l := .t (.bl true)) ?_
    have a1 : den1 (gIsi "int") (gVar 0) [.t (.int i), .t (.int i), .un] = some (.t (.bl true), [.t (.int i), .t (.int i), .un]) := rfl
    have a2 : dNotV (den1 (gIsi "bool") (gVar 0)) [.t (.int i), .t (.int i), .un] = some (.t (.bl true), [.t (.int i), .t (.int i), .un]) := rfl
    simp only [dAndV, a1, a2, Option.bind_some, L.asBl, if_true, e]
theorem ev_alike : ∀ (q : Nat) (x : T), okT x = true → x.dep < q → f__law_alike q [x, x] = some (.t (.bl true))
  | 0, x, _, h => absurd h (Nat.not_lt_zero _)
  | q + 1, .non, _, _ => alike_flat (.inl rfl)
  | q + 1, .int i, _, _ => alike_flat (.inr ⟨i, rfl⟩)
  | q + 1, .lst xs, h, hd => by
    simp only [okT, Bool.and_eq_true, decide_eq_true_eq] at h
    simp only [T.dep] at hd
    exact alike_seq (.inl rfl) h.2 fun y hy => ev_alike q y (okTs_mem h.1 hy) (by have := deps_mem hy; omega)
  | q + 1, .tup xs, h, hd => by
    simp only [okT, Bool.and_eq_true, decide_eq_true_eq] at h
    simp only [T.dep] at hd
    exact alike_seq (.inr rfl) h.2 fun y hy => ev_alike q y (okTs_mem h.1 hy) (by have := deps_mem hy; omega)
  | q + 1, .bl _, h, _ => by cases h
  | q + 1, .str _, h, _ => by cases h
  | q + 1, .lkl _, h, _ => by cases h
  | q + 1, .fn _, h, _ => by cases h
  | q + 1, .dic _ _ _, h, _ => by cases h
theorem okTs_ii : ∀ ns : List Int, okTs (ii ns) = true
  | [] => rfl
  | n :: ns => by simp only [ii, List.map_cons, okTs, okT, Bool.true_and]; exact okTs_ii ns
theorem alike_ii {ns : List Int} (h : ns.length < 10000) : f__law_alike 5 [.lst (ii ns), .lst (ii ns)] = some (.t (.bl true)) := by
  refine ev_alike 5 _ ?_ ?_
  · simp only [okT, okTs_ii, Bool.true_and, decide_eq_true_eq, ii, List.length_map]; exact h
  · simp only [T.dep, ii, deps_ii]; decide
theorem okTs_pairs : ∀ ps : List (Int × Int), okTs (ps.map pairT) = true
  | [] => rfl
  | p :: ps => by simp only [List.map_cons, okTs, pairT, okT, Bool.true_and, Bool.and_eq_true]; exact ⟨rfl, okTs_pairs ps⟩
theorem deps_pairs : ∀ ps : List (Int × Int), T.deps (ps.map pairT) ≤ 1
  | [] => by simp [T.deps]
  | p :: ps => by
    have := deps_pairs ps
    have e : (pairT p).dep = 1 := rfl
    simp only [List.map_cons, T.deps, e]
    omega
theorem alike_pairs {ps : List (Int × Int)} (h : ps.length < 10000) : f__law_alike 5 [.lst (ps.map pairT), .lst (ps.map pairT)] = some (.t (.bl true)) := by
  refine ev_alike 5 _ ?_ ?_
  · simp only [okT, okTs_pairs, Bool.true_and, decide_eq_true_eq, List.length_map]; exact h
  · have := deps_pairs ps
    simp only [T.dep]; omega
theorem alike_int (i : Int) : f__law_alike 5 [.int i, .int i] = some (.t (.bl true)) := ev_alike 5 _ rfl (show 0 < 5 from by decide)
theorem alike_non : f__law_alike 5 [.non, .non] = some (.t (.bl true)) := ev_alike 5 _ rfl (show 0 < 5 from by decide)
end LK
namespace LK
open PySem LW
open L2 (atI ixN)

theorem bodyF_t {n m : Nat} {as : List Nat} {d : DenS} {xs ts ys : List T} {ρ' : REnv} {x : T} (hl : (decide (ts.length + 1 = n) && !as.contains 0) = true) (h : d (L.own (.lst xs) :: (ts.map L.t ++ List.replicate (m - n) L.un)) = some (.ret (.t x), ρ')) (h0 : ρ'[0]? = some (L.own (.lst ys))) : bodyF n m as d xs ts = some (.t x, ys) := by
  simp only [bodyF, hl, h, h0, if_true, Option.bind_some, finP, Option.map_some]
/-- the feed: cells, place, number, state -/
def FD (cs : List Int) (a b c : Int) : List T := [.lst (ii cs), .int a, .int b, .int c]
def GF (fd : List T) : Prop := ∃ (cs : List Int) (a b c : Int), fd = FD cs a b c ∧ 0 ≤ a ∧ 0 ≤ b ∧ 0 ≤ c ∧ c < 2147483647
section
variable (cs : List Int) (a b c m : Int) (x y z : L)
def Fe : REnv := [.own (.lst (FD cs a b c)), .t (.int m), x, y, z]
theorem rd0 : den2 gIx (gVar 0) (gC (.int 0)) (Fe cs a b c m x y z) = some (.t (.lst (ii cs)), Fe cs a b c m x y z) := rfl
theorem rd1 : den2 gIx (gVar 0) (gC (.int 1)) (Fe cs a b c m x y z) = some (.t (.int a), Fe cs a b c m x y z) := rfl
theorem rd2 : den2 gIx (gVar 0) (gC (.int 2)) (Fe cs a b c m x y z) = some (.t (.int b), Fe cs a b c m x y z) := rfl
theorem rd3 : den2 gIx (gVar 0) (gC (.int 3)) (Fe cs a b c m x y z) = some (.t (.int c), Fe cs a b c m x y z) := rfl
theorem st2 {d : Den} {v : Int} (h : d (Fe cs a b c m x y z) = some (.t (.int v), Fe cs a b c m x y z)) : dAsg d (gSubT 0 (gC (.int 2))) (Fe cs a b c m x y z) = some (.nx, Fe cs a v c m x y z) := by rw [dAsg, h]; rfl
theorem st3 {d : Den} {v : Int} (h : d (Fe cs a b c m x y z) = some (.t (.int v), Fe cs a b c m x y z)) : dAsg d (gSubT 0 (gC (.int 3))) (Fe cs a b c m x y z) = some (.nx, Fe cs a b v m x y z) := by rw [dAsg, h]; rfl
theorem au1 : dAugS 0 gIAdd (gC (.int 1)) (gC (.int 1)) (Fe cs a b c m x y z) = some (.nx, Fe cs (a + 1) b c m x y z) := rfl
end
theorem gEq_i (ρ : REnv) (i j : Int) : gB gEq ρ (.t (.int i)) (.t (.int j)) = some (.t (.bl (decide (i = j)))) := by simp only [gB, gEq, L.view, eqOk_int, if_true, eqv_int, Option.map_some]
theorem gLt_i (ρ : REnv) (i j : Int) : gB gLt ρ (.t (.int i)) (.t (.int j)) = some (.t (.bl (decide (i < j)))) := rfl
theorem gGt_i (ρ : REnv) (i j : Int) : gB gGt ρ (.t (.int i)) (.t (.int j)) = some (.t (.bl (decide (j < i)))) := rfl
theorem gGe_i (ρ : REnv) (i j : Int) : gB gGe ρ (.t (.int i)) (.t (.int j)) = some (.t (.bl (decide (j ≤ i)))) := rfl
theorem dBl_eq {d : Den} {ρ ρ' : REnv} {b : Bool} (h : d ρ = some (.t (.bl b), ρ')) : dBl d ρ = some (b, ρ') := by simp only [dBl, h, Option.bind_some, L.asBl, Option.map_some]
theorem gAdd_i (ρ : REnv) (i j : Int) : gAdd ρ (.t (.int i)) (.t (.int j)) = some (.t (.int (i + j))) := rfl
theorem gInt_i (ρ : REnv) (i : Int) : gInt ρ (.t (.int i)) = some (.t (.int i)) := rfl
theorem gAbs_i (ρ : REnv) (i : Int) : ∃ w, gAbs ρ (.t (.int i)) = some (.t (.int w)) ∧ 0 ≤ w := by
  refine ⟨if i < 0 then -i else i, rfl, ?_⟩
  split <;> omega
theorem draw_stage1 (cs : List Int) (a b c m : Int) (ha : 0 ≤ a) (hb : 0 ≤ b) (hc : 0 ≤ c) (hc2 : c < 2147483647) :
    ∃ a1 b1 c1 x, 0 ≤ a1 ∧ 0 ≤ b1 ∧ 0 ≤ c1 ∧ c1 < 2147483647 ∧ (dIfS (dAnd (dBl (den2 (gB gEq) (den2 gIx (gVar 0) (gC (.int 2))) (gC (.int 0)))) (dBl (den2 (gB gLt) (den2 gIx (gVar 0) (gC (.int 1))) (den1 gLen (den2 gIx (gVar 0) (gC (.int 0))))))) (dSeq (dSet 2 (den1 gAbs (den1 gInt (den2 gIx (den2 gIx (gVar 0) (gC (.int 0))) (den2 gIx (gVar 0) (gC (.int 1)))))))
  (dSeq (dAugS 0 gIAdd (gC (.int 1)) (gC (.int 1)))
  (dIfS (dBl (den2 (gB gGe) (gVar 2) (den2 gPow (gC (.int 10)) (gC (.int 18))))) (dAsg (gVar 2) (gSubT 0 (gC (.int 2)))) (dAsg (den2 gMod (den1 gInt (den2 gAdd (den2 gAdd (den2 gMul (den2 gIx (gVar 0) (gC (.int 3))) (gC (.int 48271))) (den2 gMul (gVar 2) (gC (.int 69621)))) (den2 gIx (gVar 0) (gC (.int 1))))) (gC (.int 2147483647))) (gSubT 0 (gC (.int 3))))))) dNx) (Fe cs a b c m .un .un .un) = some (.nx, Fe cs a1 b1 c1 m x .un .un) := by
  have len : den1 gLen (den2 gIx (gVar 0) (gC (.int 0))) (Fe cs a b c m .un .un .un) = some (.t (.int cs.length), Fe cs a b c m .un .un .un) := by
    have e : (ii cs).length = cs.length := by simp [ii]
    exact den1_eq (rd0 cs a b c m .un .un .un) (by simp only [gLen, L.lview, e, Option.map_some])
  have k1 := dBl_eq (den2_eq (g := gB gEq) (rd2 cs a b c m .un .un .un) (d2 := gC (.int 0)) (l2 := .t (.int 0)) rfl (gEq_i _ b 0))
  have k2 := dBl_eq (den2_eq (g := gB gLt) (rd1 cs a b c m .un .un .un) len (gLt_i _ a cs.length))
  by_cases hcond : b = 0 ∧ a < cs.length
  · obtain ⟨h1, h2⟩ := hcond
    rw [decide_eq_true h1] at k1
    rw [decide_eq_true h2] at k2
    have kk : dAnd (dBl (den2 (gB gEq) (den2 gIx (gVar 0) (gC (.int 2))) (gC (.int 0)))) (dBl (den2 (gB gLt) (den2 gIx (gVar 0) (gC (.int 1))) (den1 gLen (den2 gIx (gVar 0) (gC (.int 0)))))) (Fe cs a b c m .un .un .un) = some (true, Fe cs a b c m .un .un .un) := by
      simp only [dAnd, k1, Option.bind_some, if_true, k2]
    rw [dIfS_t kk]
    have ea := atI_ints (ns := cs) ha h2
    obtain ⟨w, hw, hw0⟩ := gAbs_i (Fe cs a b c m .un .un .un) (cs.getD a.toNat 0)
    have s1 : dSet 2 (den1 gAbs (den1 gInt (den2 gIx (den2 gIx (gVar 0) (gC (.int 0))) (den2 gIx (gVar 0) (gC (.int 1)))))) (Fe cs a b c m .un .un .un) = some (.nx, Fe cs a b c m (.t (.int w)) .un .un) :=
      dSet_t (den1_eq (den1_eq (den2_eq (rd0 cs a b c m .un .un .un) (rd1 cs a b c m .un .un .un) (gIx_l _ ea)) (gInt_i _ _)) hw) (show 2 < 5 from by decide)
    rw [dSeq_nx s1, dSeq_nx (au1 cs a b c m (.t (.int w)) .un .un)]
    have k3 := dBl_eq (den2_eq (g := gB gGe) (d1 := gVar 2) (ρ := Fe cs (a + 1) b c m (.t (.int w)) .un .un) (l1 := .t (.int w)) rfl (d2 := den2 gPow (gC (.int 10)) (gC (.int 18))) (l2 := .t (.int 1000000000000000000)) (ρ2 := Fe cs (a + 1) b c m (.t (.int w)) .un .un) (by rfl) (gGe_i _ w 1000000000000000000))
    by_cases hw2 : 1000000000000000000 ≤ w
    · rw [decide_eq_true hw2] at k3
      rw [dIfS_t k3]
      exact ⟨a + 1, w, c, .t (.int w), by omega, by omega, hc, hc2, st2 cs (a + 1) b c m (.t (.int w)) .un .un rfl⟩
    · rw [decide_eq_false hw2] at k3
      rw [dIfS_f k3]
      have m1 := den2_eq (g := gMul) (rd3 cs (a + 1) b c m (.t (.int w)) .un .un) (d2 := gC (.int 48271)) (l2 := .t (.int 48271)) rfl (gMul_e _ (mulOk_smallr (i := c) (j := 48271) (by decide) (by decide)))
      have m2 := den2_eq (g := gMul) (d1 := gVar 2) (ρ := Fe cs (a + 1) b c m (.t (.int w)) .un .un) (l1 := .t (.int w)) rfl (d2 := gC (.int 69621)) (l2 := .t (.int 69621)) rfl (gMul_e _ (mulOk_smallr (i := w) (j := 69621) (by decide) (by decide)))
      have m3 := den2_eq (den1_eq (den2_eq (den2_eq m1 m2 (gAdd_i _ _ _)) (rd1 cs (a + 1) b c m (.t (.int w)) .un .un) (gAdd_i _ _ _)) (gInt_i _ _)) (d2 := gC (.int 2147483647)) (l2 := .t (.int 2147483647)) rfl (gMod_e _ (by decide))
      exact ⟨a + 1, b, (c * 48271 + w * 69621 + (a + 1)) % 2147483647, .t (.int w), by omega, hb, by omega, by omega, st3 cs (a + 1) b c m (.t (.int w)) .un .un m3⟩
  · refine ⟨a, b, c, .un, ha, hb, hc, hc2, ?_⟩
    have kk : dAnd (dBl (den2 (gB gEq) (den2 gIx (gVar 0) (gC (.int 2))) (gC (.int 0)))) (dBl (den2 (gB gLt) (den2 gIx (gVar 0) (gC (.int 1))) (den1 gLen (den2 gIx (gVar 0) (gC (.int 0)))))) (Fe cs a b c m .un .un .un) = some (false, Fe cs a b c m .un .un .un) := by
      by_cases h1 : b = 0
      · have h2 : ¬ a < cs.length := fun z => hcond ⟨h1, z⟩
        rw [decide_eq_true h1] at k1
        rw [decide_eq_false h2] at k2
        simp only [dAnd, k1, Option.bind_some, if_true, k2]
      · rw [decide_eq_false h1] at k1
        simp only [dAnd, k1, Option.bind_some]
        rfl
    rw [dIfS_f kk]
    rfl
theorem ev_draw {fd : List T} {m : Int} (hf : GF fd) (hm : 0 < m) (hm2 : m < 1073741824) : ∃ v fd', g__law_draw fd [.int m] = some (.t (.int v), fd') ∧ 0 ≤ v ∧ v < m ∧ GF fd' := by
  obtain ⟨cs, a0, b0, c0, rfl, ha0, hb0, hc0, hc02⟩ := hf
  obtain ⟨a, b, c, x, ha, hb, hc, hc2, s1⟩ := draw_stage1 cs a0 b0 c0 m ha0 hb0 hc0 hc02
  have k1 := dBl_eq (den2_eq (g := gB gGt) (rd2 cs a b c m x .un .un) (d2 := gC (.int 0)) (l2 := .t (.int 0)) rfl (gGt_i _ b 0))
  by_cases hp : 0 < b
  · rw [decide_eq_true hp] at k1
    have t1 : dSet 3 (den2 gMod (den1 gInt (den2 gIx (gVar 0) (gC (.int 2)))) (gVar 1)) (Fe cs a b c m x .un .un) = some (.nx, Fe cs a b c m x (.t (.int (b % m))) .un) :=
      dSet_t (den2_eq (den1_eq (rd2 cs a b c m x .un .un) (gInt_i _ _)) (l2 := .t (.int m)) (ρ2 := Fe cs a b c m x .un .un) rfl (gMod_e _ hm)) (show 3 < 5 from by decide)
    have t2 := st2 cs a b c m x (.t (.int (b % m))) .un (d := den2 gDiv (den2 gIx (gVar 0) (gC (.int 2))) (gVar 1)) (v := b / m) (den2_eq (rd2 cs a b c m x (.t (.int (b % m))) .un) (l2 := .t (.int m)) (ρ2 := Fe cs a b c m x (.t (.int (b % m))) .un) rfl (gDiv_e _ hm hm2))
    refine ⟨b % m, FD cs a (b / m) c, ?_, Int.emod_nonneg _ (by omega), Int.emod_lt_of_pos _ hm, ⟨cs, a, b / m, c, rfl, ha, Int.ediv_nonneg hb (by omega), hc, hc2⟩⟩
    refine bodyF_t (ρ' := Fe cs a (b / m) c m x (.t (.int (b % m))) .un) rfl ?_ rfl
    show d__law_draw (Fe cs a0 b0 c0 m .un .un .un) = _
    rw [d__law_draw, dSeq_nx s1]
    refine dSeq_ret ?_
    rw [dIfS_t k1, dSeq_nx t1, dSeq_nx t2]
    rfl
  · rw [decide_eq_false hp] at k1
    have m1 := den2_eq (g := gMul) (rd3 cs a b c m x .un .un) (d2 := gC (.int 16807)) (l2 := .t (.int 16807)) rfl (gMul_e _ (mulOk_smallr (i := c) (j := 16807) (by decide) (by decide)))
    have m2 := den2_eq (den1_eq (den2_eq m1 (d2 := gC (.int 12345)) (l2 := .t (.int 12345)) rfl (gAdd_i _ _ _)) (gInt_i _ _)) (d2 := gC (.int 2147483647)) (l2 := .t (.int 2147483647)) rfl (gMod_e _ (by decide))
    have t1 := st3 cs a b c m x .un .un m2
    generalize hc' : (c * 16807 + 12345) % 2147483647 = c' at t1
    have hc1 : 0 ≤ c' := by omega
    have hc3 : c' < 2147483647 := by omega
    have m3 := den2_eq (g := gMul) (rd3 cs a b c' m x .un .un) (rd3 cs a b c' m x .un .un) (gMul_e _ (mulOk_small (i := c') (j := c') (by omega) (by omega)))
    have m4 := den2_eq (den1_eq (den2_eq m3 (rd3 cs a b c' m x .un .un) (gAdd_i _ _ _)) (gInt_i _ _)) (d2 := gC (.int 2147483629)) (l2 := .t (.int 2147483629)) rfl (gMod_e _ (by decide))
    have t2 : dSet 4 _ (Fe cs a b c' m x .un .un) = some (.nx, Fe cs a b c' m x .un (.t (.int ((c' * c' + c') % 2147483629)))) := dSet_t m4 (show 4 < 5 from by decide)
    generalize hv : (c' * c' + c') % 2147483629 = w at t2
    have t3 := den2_eq (den2_eq (d1 := gVar 4) (ρ := Fe cs a b c' m x .un (.t (.int w))) (l1 := .t (.int w)) rfl (d2 := gC (.int 11)) (l2 := .t (.int 11)) rfl (gDiv_e _ (by decide) (by decide))) (d2 := gVar 1) (l2 := .t (.int m)) (ρ2 := Fe cs a b c' m x .un (.t (.int w))) rfl (gMod_e _ hm)
    refine ⟨w / 11 % m, FD cs a b c', ?_, Int.emod_nonneg _ (by omega), Int.emod_lt_of_pos _ hm, ⟨cs, a, b, c', rfl, ha, hb, hc1, hc3⟩⟩
    refine bodyF_t (ρ' := Fe cs a b c' m x .un (.t (.int w))) rfl ?_ rfl
    show d__law_draw (Fe cs a0 b0 c0 m .un .un .un) = _
    rw [d__law_draw, dSeq_nx s1, dSeq_nx (by rw [dIfS_f k1]; rfl), dSeq_nx t1, dSeq_nx t2]
    exact dRet_eq t3
end LK
namespace LK
open PySem LW
open L2 (atI ixN)

theorem getD_drop' {a : List Int} {k j : Nat} : (a.drop k).getD j 0 = a.getD (k + j) 0 := by simp [List.getD_eq_getElem?_getD]
theorem ext_getD {a b : List Int} (hl : a.length = b.length) (h : ∀ i, i < a.length → a.getD i 0 = b.getD i 0) : a = b := by
  refine List.ext_getElem hl fun i h1 h2 => ?_
  have := h i h1
  simpa [List.getD_eq_getElem?_getD, h1, h2] using this
theorem getD_range {f : Nat → Int} {n i : Nat} (h : i < n) : ((List.range n).map f).getD i 0 = f i := by simp [List.getD_eq_getElem?_getD, h]
theorem dotR_last {taps row : List Int} (h : taps.length ≤ row.length) : dotR taps row = dotR taps (row.drop (row.length - taps.length)) := by
  unfold dotR
  congr 1
  refine List.map_congr_left fun i hi => ?_
  have hi : i < taps.length := by simpa using hi
  rw [getD_drop', List.length_drop]
  congr 2
  omega
section
variable {p : Int} {taps st : List Int} (hs : taps.length = st.length) (h0 : 0 < st.length)
include hs h0
theorem grow_drop : ∀ n, (grow p taps st n).drop n = itS p taps n st
  | 0 => rfl
  | n + 1 => by
    have gl := grow_len p taps st n
    have ih := grow_drop n
    rw [grow, push, List.drop_append_of_le_length (by omega), itS, nxS, ← ih, List.drop_drop, dotR_last (row := grow p taps st n) (by omega), show (grow p taps st n).length - taps.length = n by omega]
theorem grow_pre {m : Nat} : ∀ (k : Nat) (i : Nat), i < (grow p taps st m).length → (grow p taps st (m + k)).getD i 0 = (grow p taps st m).getD i 0
  | 0, i, h => rfl
  | k + 1, i, h => by
    have gl := grow_len p taps st (m + k)
    have gl2 := grow_len p taps st m
    rw [← grow_pre k i h, show m + (k + 1) = m + k + 1 by omega, grow, push, getD_app1 (by omega)]
def uu (p : Int) (taps st : List Int) (i : Nat) : Int := (itS p taps i st).getD 0 0
theorem grow_u {n i : Nat} (h : i < st.length + n) : (grow p taps st n).getD i 0 = uu p taps st i := by
  have e : (grow p taps st i).getD i 0 = uu p taps st i := by
    have := grow_drop (p := p) hs h0 i
    rw [uu, ← this, getD_drop']
    rfl
  have gl := grow_len p taps st n
  have gl2 := grow_len p taps st i
  by_cases hn : n ≤ i
  · have := grow_pre (p := p) hs h0 (m := n) (i - n) i (by omega)
    rw [show n + (i - n) = i by omega] at this
    rw [← this, e]
  · have := grow_pre (p := p) hs h0 (m := i) (n - i) i (by omega)
    rw [show i + (n - i) = n by omega] at this
    rw [this, e]
theorem win_u (n : Nat) : itS p taps n st = (List.range st.length).map fun j => uu p taps st (n + j) := by
  have gl := grow_len p taps st n
  refine ext_getD (by rw [itS_len h0]; simp) fun i hi => ?_
  rw [itS_len h0] at hi
  rw [getD_range hi, ← grow_drop (p := p) hs h0 n, getD_drop', grow_u hs h0 (by omega)]
/-- the recurrence -/
def Rec (p : Int) (taps : List Int) (u : Nat → Int) : Prop := ∀ i, u (i + taps.length) = ((List.range taps.length).map fun j => taps.getD j 0 * u (i + taps.length - 1 - j)).sum % p
theorem rec_u : Rec p taps (uu p taps st) := by
  intro i
  have gl := grow_len p taps st i
  have e := grow_u (p := p) hs h0 (n := i + 1) (i := i + taps.length) (by omega)
  rw [← e, grow, push, getD_app2 (by omega), show i + taps.length - (grow p taps st i).length = 0 by omega]
  show dotR taps (grow p taps st i) % p = _
  unfold dotR
  congr 2
  refine List.map_congr_left fun j hj => ?_
  have hj : j < taps.length := by simpa using hj
  rw [grow_u hs h0 (by omega)]
  congr 2
  omega
end
theorem rec_uniq {p : Int} {taps : List Int} {a b : Nat → Int} (ha : Rec p taps a) (hb : Rec p taps b) (h : ∀ i, i < taps.length → a i = b i) : ∀ i, a i = b i := by
  intro i
  induction i using Nat.strongRecOn with
  | ind i ih =>
    by_cases hi : i < taps.length
    · exact h i hi
    · have e := ha (i - taps.length)
      have e2 := hb (i - taps.length)
      rw [show i - taps.length + taps.length = i by omega] at e e2
      rw [e, e2]
      congr 2
      refine List.map_congr_left fun j hj => ?_
      have hj : j < taps.length := by simpa using hj
      rw [ih _ (by omega)]
theorem rec_shift {p : Int} {taps : List Int} {a : Nat → Int} (ha : Rec p taps a) (k : Nat) : Rec p taps fun i => a (i + k) := by
  intro i
  have := ha (i + k)
  show a (i + taps.length + k) = _
  rw [show i + taps.length + k = i + k + taps.length by omega, this]
  congr 2
  refine List.map_congr_left fun j hj => ?_
  have hj : j < taps.length := by simpa using hj
  show _ = taps.getD j 0 * a (i + taps.length - 1 - j + k)
  congr 2
  omega
theorem sum_add {f g : Nat → Int} : ∀ xs : List Nat, (xs.map fun j => f j + g j).sum = (xs.map f).sum + (xs.map g).sum
  | [] => rfl
  | x :: xs => by simp only [List.map_cons, List.sum_cons, sum_add xs]; omega
theorem sum_mod {p : Int} {f g : Nat → Int} : ∀ xs : List Nat, (∀ j ∈ xs, f j % p = g j % p) → (xs.map f).sum % p = (xs.map g).sum % p
  | [], _ => rfl
  | x :: xs, h => by
    have h1 := h x List.mem_cons_self
    have h2 := sum_mod xs fun j hj => h j (List.mem_cons_of_mem _ hj)
    simp only [List.map_cons, List.sum_cons]
    rw [Int.add_emod, h1, h2, ← Int.add_emod]
theorem rec_add {p : Int} {taps : List Int} {a b : Nat → Int} (ha : Rec p taps a) (hb : Rec p taps b) : Rec p taps fun i => (a i + b i) % p := by
  intro i
  show (a (i + taps.length) + b (i + taps.length)) % p = _
  rw [ha i, hb i, ← Int.add_emod, ← sum_add]
  refine sum_mod _ fun j _ => ?_
  rw [← Int.mul_add, Int.mul_emod, Int.mul_emod (taps.getD j 0) ((a _ + b _) % p), Int.emod_emod_of_dvd _ (Int.dvd_refl p)]
theorem find_eq {P M : Nat} {p1 p2 : Nat → Bool} (h0 : 0 < P) (hM : P ≤ M) (h1 : ∀ i, i < P → p1 i = p2 i) (h2 : ∀ i, p2 (i + P) = p2 i) : (List.range P).find? p1 = (List.range M).find? p2 := by
  have hp : ∀ k i, p2 (i + k * P) = p2 i := by
    intro k
    induction k with
    | zero => intro i; simp
    | succ k ih => intro i; rw [Nat.succ_mul, ← Nat.add_assoc, h2, ih]
  have hmod : ∀ i, p2 i = p2 (i % P) := fun i => by
    have := hp (i / P) (i % P)
    rw [Nat.mod_add_div' i P] at this
    exact this
  have e : List.range M = List.range P ++ (List.range (M - P)).map (P + ·) := by rw [← List.range_add, show P + (M - P) = M by omega]
  have e1 : (List.range P).find? p1 = (List.range P).find? p2 := by
    have : ∀ l : List Nat, (∀ x ∈ l, x < P) → l.find? p1 = l.find? p2 := by
      intro l
      induction l with
      | nil => intro _; rfl
      | cons x l ih =>
        intro h
        simp only [List.find?_cons, h1 x (h x List.mem_cons_self), ih fun y hy => h y (List.mem_cons_of_mem _ hy)]
    exact this _ fun x hx => by simpa using hx
  rw [e, List.find?_append, e1]
  cases q : (List.range P).find? p2 with
  | some x => rfl
  | none =>
    have q := List.find?_eq_none.mp q
    have : ((List.range (M - P)).map (P + ·)).find? p2 = none := by
      refine List.find?_eq_none.mpr fun x hx => ?_
      have := q (x % P) (by simpa using Nat.mod_lt x h0)
      rw [hmod x]
      exact this
    rw [this]
    rfl
end LK
namespace LK
open PySem LW
open L2 (atI ixN)

def allV (n : Nat) : Nat → List (List Int)
  | 0 => [[]]
  | s + 1 => (List.range n).flatMap fun d => (allV n s).map fun r => ((d : Nat) : Int) :: r
theorem flat_len {α β : Type} {f : α → List β} {c : Nat} : ∀ l : List α, (∀ x ∈ l, (f x).length = c) → (l.flatMap f).length = l.length * c
  | [], _ => by simp
  | x :: l, h => by
    rw [List.flatMap_cons, List.length_append, h x List.mem_cons_self, flat_len l fun y hy => h y (List.mem_cons_of_mem _ hy), List.length_cons, Nat.succ_mul, Nat.add_comm]
theorem allV_len (n : Nat) : ∀ s, (allV n s).length = n ^ s
  | 0 => rfl
  | s + 1 => by
    rw [allV, flat_len (c := n ^ s) _ fun d _ => by rw [List.length_map, allV_len n s], List.length_range, Nat.pow_succ, Nat.mul_comm]
def InR (n : Nat) (a : List Int) : Prop := ∀ x ∈ a, 0 ≤ x ∧ x < n
theorem mem_allV {n : Nat} : ∀ {s : Nat} {a : List Int}, a.length = s → InR n a → a ∈ allV n s
  | 0, a, h, _ => by rw [List.length_eq_zero_iff.mp h]; simp [allV]
  | s + 1, [], h, _ => by simp at h
  | s + 1, x :: a, h, hr => by
    have hx := hr x List.mem_cons_self
    refine List.mem_flatMap.mpr ⟨x.toNat, by simp; omega, List.mem_map.mpr ⟨a, mem_allV (by simpa using h) fun y hy => hr y (List.mem_cons_of_mem _ hy), ?_⟩⟩
    rw [show ((x.toNat : Nat) : Int) = x by omega]
theorem exists_min {Q : Nat → Prop} (h : ∃ n, Q n) : ∃ n, Q n ∧ ∀ m, m < n → ¬ Q m := by
  obtain ⟨n, hn⟩ := h
  induction n using Nat.strongRecOn with
  | ind n ih =>
    by_cases hm : ∃ m, m < n ∧ Q m
    · obtain ⟨m, h1, h2⟩ := hm
      exact ih m h1 h2
    · exact ⟨n, hn, fun m h1 h2 => hm ⟨m, h1, h2⟩⟩
theorem pigeon {α : Type} [BEq α] [LawfulBEq α] (f : Nat → α) (l : List α) (h : ∀ i, f i ∈ l) : ∃ i j, i < j ∧ j ≤ l.length ∧ f i = f j := by
  by_cases hn : ∃ i j, i < j ∧ j ≤ l.length ∧ f i = f j
  · exact hn
  · exfalso
    have nd : ((List.range (l.length + 1)).map f).Nodup := by
      refine List.pairwise_map.mpr (List.Pairwise.imp_of_mem (fun {a b} ha hb hab e => hn ⟨a, b, hab, ?_, e⟩) List.pairwise_lt_range)
      have := List.mem_range.mp hb
      omega
    have := nodup_le nd fun x hx => by
      obtain ⟨i, _, rfl⟩ := List.mem_map.mp hx
      exact h i
    simp at this
    omega
theorem inj_mod {n : Nat} {X c x y : Int} (hn : n = 2 ∨ n = 3 ∨ n = 5 ∨ n = 7) (hc : 0 < c) (hc2 : c < n) (hx : 0 ≤ x) (hx2 : x < n) (hy : 0 ≤ y) (hy2 : y < n) (h : (X + c * x) % n = (X + c * y) % n) : x = y := by
  rcases hn with rfl | rfl | rfl | rfl
  · have : c = 1 := by omega
    subst this; omega
  · have : c = 1 ∨ c = 2 := by omega
    rcases this with rfl | rfl <;> omega
  · have : c = 1 ∨ c = 2 ∨ c = 3 ∨ c = 4 := by omega
    rcases this with rfl | rfl | rfl | rfl <;> omega
  · have : c = 1 ∨ c = 2 ∨ c = 3 ∨ c = 4 ∨ c = 5 ∨ c = 6 := by omega
    rcases this with rfl | rfl | rfl | rfl | rfl | rfl <;> omega
theorem dotR_cons {taps r : List Int} {x c : Int} (h : taps.length = r.length + 1) (hc : taps.getD r.length 0 = c) : dotR taps (x :: r) = ((List.range r.length).map fun i => taps.getD i 0 * r.getD (r.length - 1 - i) 0).sum + c * x := by
  unfold dotR
  rw [h, List.range_succ, List.map_append, List.sum_append]
  congr 1
  · congr 1
    refine List.map_congr_left fun i hi => ?_
    have hi : i < r.length := by simpa using hi
    rw [List.length_cons, show r.length + 1 - 1 - i = (r.length - 1 - i) + 1 by omega]
    rfl
  · simp only [List.map_cons, List.map_nil, List.sum_cons, List.sum_nil, Int.add_zero, hc, List.length_cons, Nat.add_sub_cancel, Nat.sub_self]
    rfl
theorem nxS_inj {n : Nat} {taps a b : List Int} (hn : n = 2 ∨ n = 3 ∨ n = 5 ∨ n = 7) (ha : a.length = taps.length) (hb : b.length = taps.length) (h0 : 0 < taps.length) (hra : InR n a) (hrb : InR n b)
    (hc : 0 < taps.getD (taps.length - 1) 0) (hc2 : taps.getD (taps.length - 1) 0 < n) (h : nxS n taps a = nxS n taps b) : a = b := by
  cases a with
  | nil => simp at ha; omega
  | cons x r =>
    cases b with
    | nil => simp at hb; omega
    | cons y r2 =>
      simp only [List.length_cons] at ha hb
      simp only [nxS, List.drop_succ_cons, List.drop_zero] at h
      obtain ⟨e1, e2⟩ := List.append_inj h (by omega)
      subst e1
      have e2 : dotR taps (x :: r) % n = dotR taps (y :: r) % n := by simpa using e2
      rw [dotR_cons ha.symm rfl, dotR_cons ha.symm rfl, show r.length = taps.length - 1 by omega] at e2
      have hx := hra x List.mem_cons_self
      have hy := hrb y List.mem_cons_self
      rw [inj_mod hn hc hc2 hx.1 hx.2 hy.1 hy.2 e2]
theorem nxS_in {n : Nat} {taps a : List Int} (hn : 0 < n) (h : InR n a) : InR n (nxS n taps a) := by
  intro x hx
  rcases List.mem_append.mp hx with hx | hx
  · exact h x (List.mem_of_mem_drop hx)
  · have : x = dotR taps a % n := by simpa using hx
    rw [this]
    exact ⟨Int.emod_nonneg _ (by omega), Int.emod_lt_of_pos _ (by omega)⟩
theorem itS_in {n : Nat} {taps a : List Int} (hn : 0 < n) (h : InR n a) : ∀ k, InR n (itS n taps k a)
  | 0 => h
  | k + 1 => nxS_in hn (itS_in hn h k)
theorem period {n : Nat} {taps st : List Int} (hn : n = 2 ∨ n = 3 ∨ n = 5 ∨ n = 7) (hl : taps.length = st.length) (h0 : 0 < st.length) (hr : InR n st) (hc : 0 < taps.getD (taps.length - 1) 0) (hc2 : taps.getD (taps.length - 1) 0 < n) :
    ∃ P, 0 < P ∧ P ≤ n ^ st.length ∧ itS n taps P st = st ∧ ∀ i, 0 < i → i < P → itS n taps i st ≠ st := by
  have hn0 : 0 < n := by omega
  obtain ⟨i, j, hij, hj, e⟩ := pigeon (fun k => itS n taps k st) (allV n st.length) fun k => mem_allV (itS_len h0 k) (itS_in hn0 hr k)
  rw [allV_len] at hj
  have back : ∀ i j, i ≤ j → itS n taps i st = itS n taps j st → itS n taps (j - i) st = st := by
    intro i
    induction i with
    | zero => intro j _ e; exact e.symm
    | succ i ih =>
      intro j hj e
      have ej : j = j - 1 + 1 := by omega
      rw [ej] at e
      have := nxS_inj hn (by rw [itS_len h0, hl]) (by rw [itS_len h0, hl]) (by omega) (itS_in hn0 hr i) (itS_in hn0 hr (j - 1)) hc hc2 e
      have := ih (j - 1) (by omega) this
      rw [show j - (i + 1) = j - 1 - i by omega]
      exact this
  have hP := back i j (by omega) e
  obtain ⟨P, ⟨h1, h2⟩, h3⟩ := exists_min (Q := fun k => 0 < k ∧ itS n taps k st = st) ⟨j - i, by omega, hP⟩
  refine ⟨P, h1, ?_, h2, fun k hk hkP hh => h3 k hkP ⟨hk, hh⟩⟩
  have : ¬ (j - i < P) := fun z => h3 (j - i) z ⟨by omega, hP⟩
  omega
end LK
namespace LK
open PySem LW
open L2 (atI ixN)

theorem dSl_eq {d : Den} {dl dh : DenO} {ρ ρ1 ρ2 ρ3 : REnv} {l r : L} {lo hi : Option Int} (h : d ρ = some (l, ρ1)) (hl : dl ρ1 = some (lo, ρ2)) (hh : dh ρ2 = some (hi, ρ3)) (hg : gSl ρ3 l lo hi = some r) : dSl d dl dh ρ = some (r, ρ3) := by
  simp only [dSl, h, hl, hh, hg, Option.bind_some, Option.map_some]
theorem dSome_eq {d : Den} {ρ ρ1 : REnv} {i : Int} (h : d ρ = some (.t (.int i), ρ1)) : dSome d ρ = some (some i, ρ1) := by simp only [dSome, h, Option.bind_some, L.asInt, Option.map_some]
theorem gSl_o (ρ : REnv) {k : Nat} {xs : List T} {lo hi : Option Int} (h : ρ[k]? = some (.own (.lst xs))) : gSl ρ (.ref k) lo hi = some (.own (.lst (cutT xs lo hi))) := by simp only [gSl, L.lview, h, Option.map_some]
theorem gSl_l (ρ : REnv) {xs : List T} {lo hi : Option Int} : gSl ρ (.t (.lst xs)) lo hi = some (.own (.lst (cutT xs lo hi))) := by simp only [gSl, L.lview, Option.map_some]
theorem gAdd_o (ρ : REnv) {a b : List T} (h : a.length + b.length ≤ line) : gAdd ρ (.own (.lst a)) (.own (.lst b)) = some (.own (.lst (a ++ b))) := by simp only [gAdd, gCat, L.lview, h, if_true]
theorem gEq_l (ρ : REnv) {k : Nat} {a b : List Int} (h : ρ[k]? = some (.own (.lst (ii a)))) : gB gEq ρ (.ref k) (.own (.lst (ii b))) = some (.t (.bl (decide (a = b)))) := by
  simp only [gB, gEq, L.view, h, eqOk_lst, if_true, eqv_lst, Option.map_some]
theorem gEq_l2 (ρ : REnv) {k : Nat} {a b : List Int} (h : ρ[k]? = some (.own (.lst (ii a)))) : gB gEq ρ (.own (.lst (ii b))) (.ref k) = some (.t (.bl (decide (b = a)))) := by
  simp only [gB, gEq, L.view, h, eqOk_lst, if_true, eqv_lst, Option.map_some]
def resF (o : Option Nat) : T := match o with
  | some a => .int (a : Nat)
  | none => .non
/-- for .. in range(n): if test: return it; return None -/
theorem find_ret {dt : DenT} {n k : Nat} {as : List Nat} {ds : Den} (hn : n < 10000) (Ef : L → REnv) (p : Nat → Bool) (h0 : ds (Ef .un) = some (.t (.int n), Ef .un)) (hg : ∀ z i, gNameT k (T.int ((i : Nat) : Int)) (Ef z) = some (Ef (.t (.int i)))) (hv : ∀ i : Nat, gVar k (Ef (.t (.int i))) = some (.t (.int i), Ef (.t (.int i))))
    (ht : ∀ i : Nat, i < n → dt (Ef (.t (.int i))) = some (p i, Ef (.t (.int i)))) : ∃ ρ', dSeq (dFor as (iRange1 (dCons ds dNil)) (gNameT k) (dIfS dt (dRet (gVar k)) dNx)) (dRet (gC .non)) (Ef .un) = some (.ret (.t (resF ((List.range n).find? p))), ρ') := by
  obtain ⟨ρ', hI, hf⟩ := forL_find (g := gNameT k) (db := dIfS dt (dRet (gVar k)) dNx) (t := fun i : Nat => T.int (i : Nat)) (fun ρ => ∃ z, ρ = Ef z) p (fun a => L.t (.int (a : Nat))) (List.range n) (by
    rintro a ha ρ ⟨z, rfl⟩
    have ha : a < n := by simpa using ha
    refine ⟨Ef (.t (.int a)), Ef (.t (.int a)), hg z a, ?_, _, rfl⟩
    have := ht a ha
    cases q : p a with
    | true =>
      rw [q] at this
      exact .inl ⟨rfl, by rw [dIfS_t this]; exact dRet_eq (hv a)⟩
    | false =>
      rw [q] at this
      exact .inr ⟨rfl, by rw [dIfS_f this]; rfl⟩) (Ef .un) ⟨.un, rfl⟩
  have s := dFor_eq (as := as) (iRange1_eq (d := ds) h0 hn) hf
  cases q : (List.range n).find? p with
  | some a =>
    rw [q] at s
    exact ⟨ρ', dSeq_ret s⟩
  | none =>
    rw [q] at s
    exact ⟨ρ', by rw [dSeq_nx s]; rfl⟩
theorem ii_drop (a : List Int) (k : Nat) : (ii a).drop k = ii (a.drop k) := by simp [ii]
theorem ii_take (a : List Int) (k : Nat) : (ii a).take k = ii (a.take k) := by simp [ii]
theorem ii_append (a b : List Int) : ii a ++ ii b = ii (a ++ b) := by simp [ii]
section
variable {n : Nat} {taps st : List Int} {P t : Nat}
def totl (n : Nat) (taps st : List Int) (P t : Nat) : List Int := (List.range P).map fun i => (uu n taps st i + uu n taps st ((i + t) % P)) % n
def rowU (n : Nat) (taps st : List Int) (m : Nat) : List Int := (List.range m).map (uu n taps st)
theorem rowU_len (m : Nat) : (rowU n taps st m).length = m := by simp [rowU]
theorem ev_shift_and_add (hn : 0 < n) (ht : Sm taps) (hl : taps.length = st.length) (h0 : 0 < st.length) (hz : st.length < 100) (hP : 0 < P) (hP2 : P < 800) (htk : t < 1000)
    (h1 : itS n taps P st = st) (h2 : ∀ i, 0 < i → i < P → itS n taps i st ≠ st) :
    f_shift_and_add [.int n, .lst (ii taps), .lst (ii st), .int t] = some (.t (resF ((List.range P).find? fun sh => decide (totl n taps st P t = (rowU n taps st P).drop sh ++ (rowU n taps st P).take sh)))) := by
  let A (a b c d e : L) : REnv := [.t (.int n), .t (.lst (ii taps)), .t (.lst (ii st)), .t (.int t), a, b, c, d, e]
  have hn1 : (0 : Int) < n := by omega
  have r1 := ev_round_from (p := n) (st := st) (taps := taps) (N := P) hn1 ht h0 (by omega) (by omega) hP (by omega) h1 h2
  have s1 : dSet 4 (den1 gLen (dCallP 3 f_round_from (dCons (gVar 0) (dCons (gVar 1) (dCons (den1 gTuple (gVar 2)) dNil))))) (A .un .un .un .un .un) = some (.nx, A (.t (.int P)) .un .un .un .un) := by
    have c : dCallP 3 f_round_from (dCons (gVar 0) (dCons (gVar 1) (dCons (den1 gTuple (gVar 2)) dNil))) (A .un .un .un .un .un) = some (_, A .un .un .un .un .un) := dCallP_eq (ts := [.int n, .lst (ii taps), .tup (ii st)]) rfl rfl r1 rfl
    exact dSet_t (den1_eq c (by simp only [gLen, L.lview, Option.map_some, List.length_map, List.length_range])) (show 4 < 9 from by decide)
  have r2 := ev_register_row (p := n) (taps := taps) (begun := st) (m := P) hn1 ht (by omega) (by omega) (by omega)
  have er : (grow n taps st (P - st.length)).take P = rowU n taps st P := by
    have gl := grow_len (n : Int) taps st (P - st.length)
    refine ext_getD (by rw [List.length_take, rowU_len]; omega) fun i hi => ?_
    rw [List.length_take] at hi
    have e : ((grow n taps st (P - st.length)).take P).getD i 0 = (grow n taps st (P - st.length)).getD i 0 := by simp [List.getD_eq_getElem?_getD, List.getElem?_take, show i < P by omega]
    rw [e, grow_u hl h0 (by omega), rowU, getD_range (by omega)]
  rw [er] at r2
  have s2 : dSet 5 (dCallP 4 f_register_row (dCons (gVar 0) (dCons (gVar 1) (dCons (gVar 2) (dCons (gVar 4) dNil))))) (A (.t (.int P)) .un .un .un .un) = some (.nx, A (.t (.int P)) (.own (.lst (ii (rowU n taps st P)))) .un .un .un) :=
    dSet_o (dCallP_eq (ts := [.int n, .lst (ii taps), .lst (ii st), .int P]) (ρ1 := A (.t (.int P)) .un .un .un .un) rfl rfl r2 rfl) (show 5 < 9 from by decide)
  let B (c d e : L) : REnv := A (.t (.int P)) (.own (.lst (ii (rowU n taps st P)))) c d e
  have s3 : dSet 6 (compD (iRange1 (dCons (gVar 4) dNil)) [7] (gNameT 7) dYes (den2 gMod (den2 gAdd (den2 gIx (gVar 5) (gVar 7)) (den2 gIx (gVar 5) (den2 gMod (den2 gAdd (gVar 7) (gVar 3)) (gVar 4)))) (gVar 0))) (B .un .un .un) = some (.nx, B (.own (.lst (ii (totl n taps st P t)))) .un .un) := by
    have c : compD (iRange1 (dCons (gVar 4) dNil)) [7] (gNameT 7) dYes (den2 gMod (den2 gAdd (den2 gIx (gVar 5) (gVar 7)) (den2 gIx (gVar 5) (den2 gMod (den2 gAdd (gVar 7) (gVar 3)) (gVar 4)))) (gVar 0)) (B .un .un .un) = some (.own (.lst ((List.range P).map fun i => T.int ((uu n taps st i + uu n taps st ((i + t) % P)) % n))), B .un .un .un) := by
      refine compD_eq (xs := (List.range P).map fun i => T.int (i : Nat)) (ho := none) (ρ1 := B .un .un .un) (iRange1_eq (n := P) rfl (by omega)) (compL_m _ _ _ fun i hi => ?_) (by simp only [List.length_map, List.length_range, line]; omega)
      have hi : i < P := by simpa using hi
      have hm : (i + t) % P < P := Nat.mod_lt _ hP
      have e1 := ix_ii (row := rowU n taps st P) (i := i) (by rw [rowU_len]; exact hi)
      have e2 := ix_ii (row := rowU n taps st P) (i := (i + t) % P) (by rw [rowU_len]; exact hm)
      rw [show (rowU n taps st P).getD i 0 = uu n taps st i from getD_range hi] at e1
      rw [show (rowU n taps st P).getD ((i + t) % P) 0 = uu n taps st ((i + t) % P) from getD_range hm] at e2
      have e3 : ((i : Int) + t) % P = (((i + t) % P : Nat) : Int) := by simp
      have c1 : (0 : Int) < P := by omega
      refine ⟨B .un (.t (.int i)) .un, rfl, .t (.int ((uu n taps st i + uu n taps st ((i + t) % P)) % n)), B .un (.t (.int i)) .un, ?_, rfl, rfl⟩
      have a1 : den2 gIx (gVar 5) (gVar 7) (B .un (.t (.int i)) .un) = some (.t (.int (uu n taps st i)), B .un (.t (.int i)) .un) := den2_eq (l1 := .ref 5) (l2 := .t (.int i)) (ρ1 := B .un (.t (.int i)) .un) rfl rfl (gIx_o _ rfl e1)
      have a2 : den2 gMod (den2 gAdd (gVar 7) (gVar 3)) (gVar 4) (B .un (.t (.int i)) .un) = some (.t (.int (((i : Int) + t) % P)), B .un (.t (.int i)) .un) := den2_eq (den2_eq (l1 := .t (.int i)) (l2 := .t (.int t)) (ρ1 := B .un (.t (.int i)) .un) (ρ2 := B .un (.t (.int i)) .un) rfl rfl (gAdd_i _ _ _)) (l2 := .t (.int P)) (ρ2 := B .un (.t (.int i)) .un) rfl (gMod_e _ c1)
      rw [e3] at a2
      have a3 : den2 gIx (gVar 5) (den2 gMod (den2 gAdd (gVar 7) (gVar 3)) (gVar 4)) (B .un (.t (.int i)) .un) = some (.t (.int (uu n taps st ((i + t) % P))), B .un (.t (.int i)) .un) := den2_eq (l1 := .ref 5) (ρ1 := B .un (.t (.int i)) .un) rfl a2 (gIx_o _ rfl e2)
      exact den2_eq (den2_eq a1 a3 (gAdd_i _ _ _)) (l2 := .t (.int n)) (ρ2 := B .un (.t (.int i)) .un) rfl (gMod_e _ hn1)
    have := dSet_o (i := 6) c (show 6 < 9 from by decide)
    rw [this, totl, ii, List.map_map]
    rfl
  obtain ⟨ρ', hf⟩ := find_ret (n := P) (k := 8) (as := [8]) (ds := gVar 4) (dt := dBl (den2 (gB gEq) (gVar 6) (den2 gAdd (dSl (gVar 5) (dSome (gVar 8)) dNone) (dSl (gVar 5) dNone (dSome (gVar 8)))))) (by omega) (fun z => B (.own (.lst (ii (totl n taps st P t)))) .un z)
    (fun sh => decide (totl n taps st P t = (rowU n taps st P).drop sh ++ (rowU n taps st P).take sh)) rfl (fun z i => rfl) (fun i => rfl) (fun sh hsh => by
      let C : REnv := B (.own (.lst (ii (totl n taps st P t)))) .un (.t (.int sh))
      have b1 : dSl (gVar 5) (dSome (gVar 8)) dNone C = some (.own (.lst (ii ((rowU n taps st P).drop sh))), C) := by
        have := dSl_eq (d := gVar 5) (dl := dSome (gVar 8)) (dh := dNone) (ρ := C) (l := .ref 5) (ρ1 := C) rfl (dSome_eq (i := sh) (ρ1 := C) rfl) (ρ3 := C) rfl (gSl_o _ rfl)
        rw [cut_lo, ii_drop] at this
        exact this
      have b2 : dSl (gVar 5) dNone (dSome (gVar 8)) C = some (.own (.lst (ii ((rowU n taps st P).take sh))), C) := by
        have := dSl_eq (d := gVar 5) (dl := dNone) (dh := dSome (gVar 8)) (ρ := C) (l := .ref 5) (ρ1 := C) rfl (ρ2 := C) rfl (dSome_eq (i := sh) (ρ1 := C) rfl) (gSl_o _ rfl)
        rw [cut_hi, ii_take] at this
        exact this
      have b3 := den2_eq b1 b2 (gAdd_o C (by simp only [ii, List.length_map, List.length_drop, List.length_take, rowU_len, line]; omega))
      rw [ii_append] at b3
      exact dBl_eq (den2_eq (d1 := gVar 6) (l1 := .ref 6) (ρ1 := C) rfl b3 (gEq_l C rfl)))
  refine bodyP_t (ρ' := ρ') rfl ?_
  show d_shift_and_add (A .un .un .un .un .un) = _
  rw [d_shift_and_add, dSeq_nx s1, dSeq_nx s2]
  show dSeq _ _ (B .un .un .un) = _
  rw [dSeq_nx s3]
  exact hf
end
end LK
namespace LK
open PySem LW
open L2 (atI ixN)

section
variable {n : Nat} {taps st : List Int} {P t : Nat}
def dueU (n : Nat) (taps st : List Int) (t : Nat) : List Int := (List.range taps.length).map fun i => (uu n taps st i + uu n taps st (i + t)) % n
theorem ev_law_shift (hn : 0 < n) (ht : Sm taps) (hl : taps.length = st.length) (h0 : 0 < st.length) (hz : st.length < 100) (htk : t < 300) :
    f__law_shift [.int n, .lst (ii taps), .lst (ii st), .int t] = some (.t (resF ((List.range 250).find? fun sh => decide (((rowU n taps st (500 + 2 * taps.length)).drop sh).take taps.length = dueU n taps st t)))) := by
  let A (a b c d e : L) : REnv := [.t (.int n), .t (.lst (ii taps)), .t (.lst (ii st)), .t (.int t), a, b, c, d, e]
  have hn1 : (0 : Int) < n := by omega
  have et : (ii taps).length = taps.length := by simp [ii]
  have s1 : dSet 4 (den1 gLen (gVar 1)) (A .un .un .un .un .un) = some (.nx, A (.t (.int taps.length)) .un .un .un .un) :=
    dSet_t (den1_eq (l1 := .t (.lst (ii taps))) (ρ1 := A .un .un .un .un .un) rfl (by simp only [gLen, L.lview, Option.map_some, et])) (show 4 < 9 from by decide)
  have r2 := ev_law_register (p := n) (taps := taps) (begun := st) (m := 500 + 2 * taps.length) hn1 ht (by omega) (by omega) (by omega) (by omega)
  have er : grow n taps st (500 + 2 * taps.length - st.length) = rowU n taps st (500 + 2 * taps.length) := by
    have gl := grow_len (n : Int) taps st (500 + 2 * taps.length - st.length)
    refine ext_getD (by rw [rowU_len]; omega) fun i hi => ?_
    rw [grow_u hl h0 (by omega), rowU, getD_range (by omega)]
  rw [er] at r2
  let A1 : REnv := A (.t (.int taps.length)) .un .un .un .un
  have m : den2 gAdd (den2 gMul (gC (.int 2)) (gC (.int 250))) (den2 gMul (gC (.int 2)) (gVar 4)) A1 = some (.t (.int ((500 + 2 * taps.length : Nat) : Int)), A1) := by
    have x1 : den2 gMul (gC (.int 2)) (gC (.int 250)) A1 = some (.t (.int 500), A1) := den2_eq (l1 := .t (.int 2)) (l2 := .t (.int 250)) (ρ1 := A1) rfl rfl (gMul_e _ (mulOk_small (by decide) (by decide)))
    have x2 : den2 gMul (gC (.int 2)) (gVar 4) A1 = some (.t (.int (2 * (taps.length : Int))), A1) := den2_eq (l1 := .t (.int 2)) (l2 := .t (.int taps.length)) (ρ1 := A1) rfl rfl (gMul_e _ (mulOk_small (by decide) (by decide)))
    have x3 := den2_eq x1 x2 (gAdd_i _ _ _)
    rw [show (500 : Int) + 2 * (taps.length : Int) = ((500 + 2 * taps.length : Nat) : Int) by omega] at x3
    exact x3
  have s2 : dSet 5 (dCallP 4 f__law_register (dCons (gVar 0) (dCons (gVar 1) (dCons (gVar 2) (dCons (den2 gAdd (den2 gMul (gC (.int 2)) (gC (.int 250))) (den2 gMul (gC (.int 2)) (gVar 4))) dNil))))) A1 = some (.nx, A (.t (.int taps.length)) (.own (.lst (ii (rowU n taps st (500 + 2 * taps.length))))) .un .un .un) :=
    dSet_o (dCallP_eq (ts := [.int n, .lst (ii taps), .lst (ii st), .int ((500 + 2 * taps.length : Nat) : Int)]) (ρ1 := A1)
      (dCons_eq (l := .t (.int n)) (ρ1 := A1) rfl rfl (dCons_eq (l := .t (.lst (ii taps))) (ρ1 := A1) rfl rfl (dCons_eq (l := .t (.lst (ii st))) (ρ1 := A1) rfl rfl (dCons_eq m rfl rfl)))) rfl r2 rfl) (show 5 < 9 from by decide)
  let B (c d e : L) : REnv := A (.t (.int taps.length)) (.own (.lst (ii (rowU n taps st (500 + 2 * taps.length))))) c d e
  have s3 : dSet 6 (compD (iRange1 (dCons (gVar 4) dNil)) [7] (gNameT 7) dYes (den2 gMod (den1 gInt (den2 gAdd (den2 gIx (gVar 5) (gVar 7)) (den2 gIx (gVar 5) (den2 gAdd (gVar 7) (gVar 3))))) (gVar 0))) (B .un .un .un) = some (.nx, B (.own (.lst (ii (dueU n taps st t)))) .un .un) := by
    have c : compD (iRange1 (dCons (gVar 4) dNil)) [7] (gNameT 7) dYes (den2 gMod (den1 gInt (den2 gAdd (den2 gIx (gVar 5) (gVar 7)) (den2 gIx (gVar 5) (den2 gAdd (gVar 7) (gVar 3))))) (gVar 0)) (B .un .un .un) = some (.own (.lst ((List.range taps.length).map fun i => T.int ((uu n taps st i + uu n taps st (i + t)) % n))), B .un .un .un) := by
      refine compD_eq (xs := (List.range taps.length).map fun i => T.int (i : Nat)) (ho := none) (ρ1 := B .un .un .un) (iRange1_eq (n := taps.length) rfl (by omega)) (compL_m _ _ _ fun i hi => ?_) (by simp only [List.length_map, List.length_range, line]; omega)
      have hi : i < taps.length := by simpa using hi
      have e1 := ix_ii (row := rowU n taps st (500 + 2 * taps.length)) (i := i) (by rw [rowU_len]; omega)
      have e2 := ix_ii (row := rowU n taps st (500 + 2 * taps.length)) (i := i + t) (by rw [rowU_len]; omega)
      rw [show (rowU n taps st (500 + 2 * taps.length)).getD i 0 = uu n taps st i from getD_range (by omega)] at e1
      rw [show (rowU n taps st (500 + 2 * taps.length)).getD (i + t) 0 = uu n taps st (i + t) from getD_range (by omega), show ((i + t : Nat) : Int) = (i : Int) + t by simp] at e2
      refine ⟨B .un (.t (.int i)) .un, rfl, .t (.int ((uu n taps st i + uu n taps st (i + t)) % n)), B .un (.t (.int i)) .un, ?_, rfl, rfl⟩
      have a1 : den2 gIx (gVar 5) (gVar 7) (B .un (.t (.int i)) .un) = some (.t (.int (uu n taps st i)), B .un (.t (.int i)) .un) := den2_eq (l1 := .ref 5) (l2 := .t (.int i)) (ρ1 := B .un (.t (.int i)) .un) rfl rfl (gIx_o _ rfl e1)
      have a2 : den2 gAdd (gVar 7) (gVar 3) (B .un (.t (.int i)) .un) = some (.t (.int ((i : Int) + t)), B .un (.t (.int i)) .un) := den2_eq (l1 := .t (.int i)) (l2 := .t (.int t)) (ρ1 := B .un (.t (.int i)) .un) (ρ2 := B .un (.t (.int i)) .un) rfl rfl (gAdd_i _ _ _)
      have a3 : den2 gIx (gVar 5) (den2 gAdd (gVar 7) (gVar 3)) (B .un (.t (.int i)) .un) = some (.t (.int (uu n taps st (i + t))), B .un (.t (.int i)) .un) := den2_eq (l1 := .ref 5) (ρ1 := B .un (.t (.int i)) .un) rfl a2 (gIx_o _ rfl e2)
      exact den2_eq (den1_eq (den2_eq a1 a3 (gAdd_i _ _ _)) (gInt_i _ _)) (l2 := .t (.int n)) (ρ2 := B .un (.t (.int i)) .un) rfl (gMod_e _ hn1)
    have := dSet_o (i := 6) c (show 6 < 9 from by decide)
    rw [this, dueU, ii, List.map_map]
    rfl
  obtain ⟨ρ', hf⟩ := find_ret (n := 250) (k := 8) (as := [8]) (ds := gC (.int 250)) (dt := dBl (den2 (gB gEq) (dSl (gVar 5) (dSome (gVar 8)) (dSome (den2 gAdd (gVar 8) (gVar 4)))) (gVar 6))) (by omega) (fun z => B (.own (.lst (ii (dueU n taps st t)))) .un z)
    (fun sh => decide (((rowU n taps st (500 + 2 * taps.length)).drop sh).take taps.length = dueU n taps st t)) rfl (fun z i => rfl) (fun i => rfl) (fun sh hsh => by
      let C : REnv := B (.own (.lst (ii (dueU n taps st t)))) .un (.t (.int sh))
      have b0 : den2 gAdd (gVar 8) (gVar 4) C = some (.t (.int ((sh + taps.length : Nat) : Int)), C) := by
        have := den2_eq (d1 := gVar 8) (d2 := gVar 4) (ρ := C) (l1 := .t (.int sh)) (l2 := .t (.int taps.length)) (ρ1 := C) (ρ2 := C) rfl rfl (gAdd_i _ _ _)
        rw [show (sh : Int) + (taps.length : Int) = ((sh + taps.length : Nat) : Int) by simp] at this
        exact this
      have b1 : dSl (gVar 5) (dSome (gVar 8)) (dSome (den2 gAdd (gVar 8) (gVar 4))) C = some (.own (.lst (ii (((rowU n taps st (500 + 2 * taps.length)).drop sh).take taps.length))), C) := by
        have := dSl_eq (d := gVar 5) (dl := dSome (gVar 8)) (ρ := C) (l := .ref 5) (ρ1 := C) rfl (dSome_eq (i := sh) (ρ1 := C) rfl) (dSome_eq b0) (gSl_o (xs := ii (rowU n taps st (500 + 2 * taps.length))) _ rfl)
        rw [cut_lh _ _ _ (by rw [ii, List.length_map, rowU_len]; omega) (by rw [ii, List.length_map, rowU_len]; omega), ii_drop, ii_take, show sh + taps.length - sh = taps.length by omega] at this
        exact this
      exact dBl_eq (den2_eq b1 (l2 := .ref 6) (ρ2 := C) rfl (gEq_l2 C rfl)))
  refine bodyP_t (ρ' := ρ') rfl ?_
  show d__law_shift (A .un .un .un .un .un) = _
  rw [d__law_shift, dSeq_nx s1]
  show dSeq _ _ A1 = _
  rw [dSeq_nx s2]
  show dSeq _ _ (B .un .un .un) = _
  rw [dSeq_nx s3]
  exact hf
theorem find_congr {α : Type} {p q : α → Bool} : ∀ l : List α, (∀ x ∈ l, p x = q x) → l.find? p = l.find? q
  | [], _ => rfl
  | x :: l, h => by simp only [List.find?_cons, h x List.mem_cons_self, find_congr l fun y hy => h y (List.mem_cons_of_mem _ hy)]
open Classical in
/-- the shift of a whole round is that of its beginning -/
theorem shift_same (hn : 0 < n) (hl : taps.length = st.length) (h0 : 0 < st.length) (hz : st.length < 100) (hP : 0 < P) (hP2 : P ≤ 250) (htk : t < 251) (h1 : itS n taps P st = st) :
    ((List.range P).find? fun sh => decide (totl n taps st P t = (rowU n taps st P).drop sh ++ (rowU n taps st P).take sh)) =
    (List.range 250).find? fun sh => decide (((rowU n taps st (500 + 2 * taps.length)).drop sh).take taps.length = dueU n taps st t) := by
  -- the period
  have itP : ∀ i, itS n taps (i + P) st = itS n taps i st := by
    intro i
    induction i with
    | zero => rw [Nat.zero_add]; exact h1
    | succ i ih => rw [show i + 1 + P = i + P + 1 by omega, itS, itS, ih]
  have uP : ∀ i, uu n taps st (i + P) = uu n taps st i := fun i => by rw [uu, itP, uu]
  have uk : ∀ k i, uu n taps st (i + k * P) = uu n taps st i := by
    intro k
    induction k with
    | zero => intro i; simp
    | succ k ih => intro i; rw [Nat.succ_mul, ← Nat.add_assoc, uP, ih]
  have um : ∀ i, uu n taps st (i % P) = uu n taps st i := fun i => by
    have := uk (i / P) (i % P)
    rw [Nat.mod_add_div' i P] at this
    exact this.symm
  let v : Nat → Int := fun i => (uu n taps st i + uu n taps st (i + t)) % n
  have vP : ∀ i, v (i + P) = v i := fun i => by
    show (uu n taps st (i + P) + uu n taps st (i + P + t)) % n = _
    rw [uP, show i + P + t = i + t + P by omega, uP]
  have ru := rec_u (p := n) hl h0
  have rv : Rec n taps v := rec_add ru (rec_shift ru t)
  -- both tests say: v is u from the shift on
  have q1 : ∀ sh, sh < P → (totl n taps st P t = (rowU n taps st P).drop sh ++ (rowU n taps st P).take sh ↔ ∀ i, v i = uu n taps st (i + sh)) := by
    intro sh hsh
    have len : ((rowU n taps st P).drop sh ++ (rowU n taps st P).take sh).length = P := by rw [List.length_append, List.length_drop, List.length_take, rowU_len]; omega
    have gd : ∀ i, i < P → ((rowU n taps st P).drop sh ++ (rowU n taps st P).take sh).getD i 0 = uu n taps st (i + sh) := by
      intro i hi
      by_cases h : i < P - sh
      · rw [getD_app1 (by rw [List.length_drop, rowU_len]; exact h), getD_drop', rowU, getD_range (by omega), Nat.add_comm]
      · rw [getD_app2 (by rw [List.length_drop, rowU_len]; omega), List.length_drop, rowU_len]
        have e : ((rowU n taps st P).take sh).getD (i - (P - sh)) 0 = (rowU n taps st P).getD (i - (P - sh)) 0 := by simp [List.getD_eq_getElem?_getD, List.getElem?_take, show i - (P - sh) < sh by omega]
        rw [e, rowU, getD_range (by omega), ← uP (i - (P - sh))]
        congr 1
        omega
    have tg : ∀ i, i < P → (totl n taps st P t).getD i 0 = v i := by
      intro i hi
      rw [totl, getD_range hi, um]
    constructor
    · intro h i
      have key : v (i % P) = uu n taps st (i % P + sh) := by
        rw [← tg _ (Nat.mod_lt _ hP), h, gd _ (Nat.mod_lt _ hP)]
      have e1 : v i = v (i % P) := by
        have : ∀ k j, v (j + k * P) = v j := by
          intro k
          induction k with
          | zero => intro j; simp
          | succ k ih => intro j; rw [Nat.succ_mul, ← Nat.add_assoc, vP, ih]
        have := this (i / P) (i % P)
        rw [Nat.mod_add_div' i P] at this
        exact this
      rw [e1, key, ← uk (i / P) (i % P + sh), show i % P + sh + i / P * P = i % P + i / P * P + sh by omega, Nat.mod_add_div' i P]
    · intro h
      refine ext_getD (by rw [len, totl]; simp) fun i hi => ?_
      have hi : i < P := by simpa [totl] using hi
      rw [tg i hi, gd i hi, h i]
  have q2 : ∀ sh, sh < 251 → (((rowU n taps st (500 + 2 * taps.length)).drop sh).take taps.length = dueU n taps st t ↔ ∀ i, v i = uu n taps st (i + sh)) := by
    intro sh hsh
    have gd : ∀ i, i < taps.length → (((rowU n taps st (500 + 2 * taps.length)).drop sh).take taps.length).getD i 0 = uu n taps st (i + sh) := by
      intro i hi
      have e : (((rowU n taps st (500 + 2 * taps.length)).drop sh).take taps.length).getD i 0 = ((rowU n taps st (500 + 2 * taps.length)).drop sh).getD i 0 := by simp [List.getD_eq_getElem?_getD, List.getElem?_take, hi]
      rw [e, getD_drop', rowU, getD_range (by omega), Nat.add_comm]
    have len : (((rowU n taps st (500 + 2 * taps.length)).drop sh).take taps.length).length = taps.length := by rw [List.length_take, List.length_drop, rowU_len]; omega
    have dg : ∀ i, i < taps.length → (dueU n taps st t).getD i 0 = v i := fun i hi => by rw [dueU, getD_range hi]
    constructor
    · intro h
      exact rec_uniq rv (rec_shift ru sh) fun i hi => by rw [← dg i hi, ← h, gd i hi]
    · intro h
      refine ext_getD (by rw [len, dueU]; simp) fun i hi => ?_
      rw [len] at hi
      rw [gd i hi, dg i hi, h i]
  have e1 := find_eq (P := P) (M := 250) (p1 := fun sh => decide (totl n taps st P t = (rowU n taps st P).drop sh ++ (rowU n taps st P).take sh)) (p2 := fun sh => decide (∀ i, v i = uu n taps st (i + sh))) hP hP2
    (fun sh hsh => decide_eq_decide.mpr (q1 sh hsh)) (fun sh => decide_eq_decide.mpr ⟨fun h i => by rw [h i, ← Nat.add_assoc, uP], fun h i => by rw [h i, ← Nat.add_assoc, uP]⟩)
  rw [e1]
  exact find_congr _ fun sh hsh => decide_eq_decide.mpr (q2 sh (by have := List.mem_range.mp hsh; omega)).symm
end
end LK
namespace LK
open PySem LW
open L2 (atI ixN)

/-! ### runs -/
def prv (row : List Int) (i : Nat) : Int := row.getD ((i + row.length - 1) % row.length) 0
def bgn (row : List Int) : List Nat := (List.range row.length).filter fun i => !decide (row.getD i 0 = prv row i)
def bgnI (row : List Int) : List Int := (bgn row).map fun (i : Nat) => (i : Int)
theorem ix_prev {row : List Int} {i : Nat} (h : i < row.length) : atI (ii row) ((i : Int) - 1) = some (.int (prv row i)) := by
  unfold prv
  by_cases h0 : i = 0
  · subst h0
    have := atI_intsN (ns := row) (i := -1) (by omega) (by omega)
    rw [show (((0 : Nat) : Int) - 1) = -1 from rfl, this, show ((row.length : Int) + -1).toNat = row.length - 1 by omega, show (0 + row.length - 1) % row.length = row.length - 1 by rw [Nat.zero_add]; exact Nat.mod_eq_of_lt (by omega)]
  · have := ix_ii (row := row) (i := i - 1) (by omega)
    rw [show ((i : Int) - 1) = ((i - 1 : Nat) : Int) by omega, this, show i + row.length - 1 = (i - 1) + row.length by omega, Nat.add_mod_right, Nat.mod_eq_of_lt (by omega)]
theorem gNe_i (ρ : REnv) (i j : Int) : gB gNe ρ (.t (.int i)) (.t (.int j)) = some (.t (.bl (!decide (i = j)))) := by simp only [gB, gNe, gEq, L.view, eqOk_int, if_true, eqv_int, Option.map_some]
def R7 (row : List Int) (a b c d e f : L) : REnv := [.t (.lst (ii row)), a, b, c, d, e, f]
theorem ev_begun {row : List Int} (hz : row.length < 1000) : compD (iRange1 (dCons (gVar 1) dNil)) [3] (gNameT 3) (dBl (den2 (gB gNe) (den2 gIx (gVar 0) (gVar 3)) (den2 gIx (gVar 0) (den2 gSub (gVar 3) (gC (.int 1)))))) (gVar 3) (R7 row (.t (.int row.length)) .un .un .un .un .un)
    = some (.own (.lst (ii (bgnI row))), R7 row (.t (.int row.length)) .un .un .un .un .un) := by
  have e : ii (bgnI row) = (bgn row).map fun (i : Nat) => T.int (i : Int) := by simp only [ii, bgnI, List.map_map]; rfl
  rw [e]
  refine compD_eq (xs := (List.range row.length).map fun i => T.int (i : Nat)) (ho := none) (ρ1 := R7 row (.t (.int row.length)) .un .un .un .un .un) (iRange1_eq (n := row.length) rfl (by omega)) (compL_fm _ _ _ _ fun i hi => ?_) ?_
  · have hi : i < row.length := by simpa using hi
    have e1 := ix_ii hi
    have e2 := ix_prev hi
    let C : REnv := R7 row (.t (.int row.length)) .un (.t (.int i)) .un .un .un
    refine ⟨C, C, rfl, ?_, fun _ => ⟨.t (.int i), C, rfl, rfl, rfl⟩, fun _ => rfl⟩
    have a1 : den2 gIx (gVar 0) (gVar 3) C = some (.t (.int (row.getD i 0)), C) := den2_eq (l1 := .t (.lst (ii row))) (l2 := .t (.int i)) (ρ1 := C) rfl rfl (gIx_l _ e1)
    have a2 : den2 gSub (gVar 3) (gC (.int 1)) C = some (.t (.int ((i : Int) - 1)), C) := den2_eq (l1 := .t (.int i)) (l2 := .t (.int 1)) (ρ1 := C) rfl rfl rfl
    have a3 : den2 gIx (gVar 0) (den2 gSub (gVar 3) (gC (.int 1))) C = some (.t (.int (prv row i)), C) := den2_eq (l1 := .t (.lst (ii row))) (ρ1 := C) rfl a2 (gIx_l _ e2)
    exact dBl_eq (den2_eq a1 a3 (gNe_i _ _ _))
  · have := List.length_filter_le (fun i => !decide (row.getD i 0 = prv row i)) (List.range row.length)
    simp only [bgn, List.length_map, List.length_range, line] at this ⊢
    omega
theorem bgn_len (row : List Int) : (bgn row).length ≤ row.length := by
  have := List.length_filter_le (fun i => !decide (row.getD i 0 = prv row i)) (List.range row.length)
  simpa [bgn] using this
theorem bgn_lt {row : List Int} {i : Nat} (h : i ∈ bgn row) : i < row.length := by
  have := (List.mem_filter.mp h).1
  simpa using this
theorem bgn_rise (row : List Int) : (bgn row).Pairwise (· < ·) := List.Pairwise.filter _ List.pairwise_lt_range
/-- never exactly one change -/
theorem bgn_ne_one (row : List Int) : (bgn row).length ≠ 1 := by
  intro h
  obtain ⟨a, ha⟩ := List.length_eq_one_iff.mp h
  have ham : a ∈ bgn row := by rw [ha]; simp
  have hal := bgn_lt ham
  have hne : ¬ row.getD a 0 = prv row a := by
    have := (List.mem_filter.mp ham).2
    simpa using this
  have same : ∀ i, i < row.length → i ≠ a → row.getD i 0 = prv row i := by
    intro i hi hia
    by_cases e : row.getD i 0 = prv row i
    · exact e
    · exfalso
      have : i ∈ bgn row := List.mem_filter.mpr ⟨by simpa using hi, by simpa using e⟩
      rw [ha] at this
      simp at this
      exact hia this
  -- going round from a
  have rnd : ∀ k, k < row.length → row.getD ((a + k) % row.length) 0 = row.getD a 0 := by
    intro k
    induction k with
    | zero => intro _; rw [Nat.add_zero, Nat.mod_eq_of_lt hal]
    | succ k ih =>
      intro hk
      have hlt : (a + (k + 1)) % row.length < row.length := Nat.mod_lt _ (by omega)
      have hne2 : (a + (k + 1)) % row.length ≠ a := by
        intro e
        by_cases hh : a + (k + 1) < row.length
        · rw [Nat.mod_eq_of_lt hh] at e; omega
        · rw [Nat.mod_eq_sub_mod (by omega), Nat.mod_eq_of_lt (by omega)] at e; omega
      rw [same _ hlt hne2, prv, ← ih (by omega)]
      congr 1
      by_cases hh : a + (k + 1) < row.length
      · rw [Nat.mod_eq_of_lt hh, show a + (k + 1) + row.length - 1 = a + k + row.length by omega, Nat.add_mod_right]
      · rw [Nat.mod_eq_sub_mod (a := a + (k + 1)) (by omega), Nat.mod_eq_of_lt (a := a + (k + 1) - row.length) (by omega), show a + (k + 1) - row.length + row.length - 1 = a + k by omega]
  apply hne
  have := rnd (row.length - 1) (by omega)
  rw [prv, show a + row.length - 1 = a + (row.length - 1) by omega, this]
end LK
namespace LK
open PySem LW
open L2 (atI ixN)

def TT : Nat → Nat → Int
  | _, 0 => 0
  | m, l + 1 => (m : Int) + 1 + TT (m + 1) l
theorem TT_mono : ∀ (l l' m : Nat), l ≤ l' → TT m l ≤ TT m l'
  | 0, 0, m, _ => Int.le_refl _
  | 0, l' + 1, m, _ => by
    have := TT_mono 0 l' (m + 1) (Nat.zero_le _)
    simp only [TT] at this ⊢
    omega
  | l + 1, 0, m, h => absurd h (Nat.not_succ_le_zero _)
  | l + 1, l' + 1, m, h => by
    have := TT_mono l l' (m + 1) (by omega)
    simp only [TT]
    omega
theorem rise_sum : ∀ (xs : List Int) (m : Nat), xs.Pairwise (· < ·) → (∀ x ∈ xs, (m : Int) < x) → TT m xs.length ≤ xs.sum
  | [], m, _, _ => by simp [TT]
  | x :: xs, m, hp, h => by
    obtain ⟨h1, h2⟩ := List.pairwise_cons.mp hp
    have hx := h x List.mem_cons_self
    have := rise_sum xs (m + 1) h2 fun y hy => by have := h1 y hy; omega
    simp only [List.length_cons, TT, List.sum_cons]
    omega
theorem insU_sum {x : Int} (hx : 0 ≤ x) : ∀ ys : List Int, (insU x ys).sum ≤ x + ys.sum
  | [] => by simp [insU]
  | y :: ys => by
    unfold insU
    split
    · simp
    · split
      · rename_i e; subst e; simp only [List.sum_cons]; omega
      · have := insU_sum hx ys
        simp only [List.sum_cons]
        omega
theorem sortU_sum : ∀ xs : List Int, (∀ x ∈ xs, 0 ≤ x) → (sortU xs).sum ≤ xs.sum
  | [], _ => Int.le_refl _
  | x :: xs, h => by
    have h1 := insU_sum (h x List.mem_cons_self) (sortU xs)
    have h2 := sortU_sum xs fun y hy => h y (List.mem_cons_of_mem _ hy)
    simp only [sortU, List.sum_cons]
    omega
theorem sortU_few {xs : List Int} (h : ∀ x ∈ xs, 0 < x) (hs : xs.sum < 1500) : (sortU xs).length < 64 := by
  have h1 := sortU_sum xs fun x hx => by have := h x hx; omega
  have h2 := rise_sum (sortU xs) 0 (sortU_sorted xs) fun x hx => by have := h x (mem_sortU.mp hx); simpa using this
  rcases Nat.lt_or_ge (sortU xs).length 64 with h3 | h3
  · exact h3
  · exfalso
    have h4 := TT_mono 64 _ 0 h3
    have h5 : TT 0 64 = 2080 := by decide
    omega
/-- the steps from change to change -/
def dif (B : List Int) (n : Nat) (k : Nat) : Int := if k + 1 < B.length then B.getD (k + 1) 0 - B.getD k 0 else B.getD 0 0 - B.getD k 0 + n
section
variable {B : List Int} {n : Nat} (hr : B.Pairwise (· < ·)) (hB : ∀ x ∈ B, 0 ≤ x ∧ x < n) (hb : 2 ≤ B.length)
include hr hB hb
theorem B_mono {i j : Nat} (h : i < j) (hj : j < B.length) : B.getD i 0 < B.getD j 0 := by
  have := List.pairwise_iff_getElem.mp hr i j (by omega) hj h
  simpa [List.getD_eq_getElem?_getD, show i < B.length by omega, hj] using this
theorem B_in {i : Nat} (h : i < B.length) : 0 ≤ B.getD i 0 ∧ B.getD i 0 < n := by
  have : B.getD i 0 ∈ B := by simp [List.getD_eq_getElem?_getD, h]
  exact hB _ this
theorem dif_in {k : Nat} (h : k < B.length) : 0 < dif B n k ∧ dif B n k < n := by
  unfold dif
  have h1 := B_in hr hB hb h
  split
  · rename_i h2
    have := B_mono hr hB hb (i := k) (j := k + 1) (by omega) h2
    have := B_in hr hB hb h2
    omega
  · have := B_mono hr hB hb (i := 0) (j := k) (by omega) h
    have := B_in hr hB hb (i := 0) (by omega)
    omega
theorem sum_dif : ∀ m, m < B.length → ((List.range m).map (dif B n)).sum = B.getD m 0 - B.getD 0 0
  | 0, _ => by simp
  | m + 1, h => by
    rw [List.range_succ, List.map_append, List.sum_append, sum_dif m (by omega)]
    simp only [List.map_cons, List.map_nil, List.sum_cons, List.sum_nil, dif, if_pos h]
    omega
theorem sum_difs : ((List.range B.length).map (dif B n)).sum = n := by
  have e : B.length = (B.length - 1) + 1 := by omega
  rw [e, List.range_succ, List.map_append, List.sum_append, sum_dif hr hB hb _ (by omega)]
  simp only [List.map_cons, List.map_nil, List.sum_cons, List.sum_nil, dif]
  rw [if_neg (by omega)]
  omega
theorem len1 {k : Nat} (h : k < B.length) : (B.getD ((k + 1) % B.length) 0 - B.getD k 0) % n = dif B n k := by
  have hd := dif_in hr hB hb h
  by_cases h2 : k + 1 < B.length
  · have e : dif B n k = B.getD (k + 1) 0 - B.getD k 0 := by simp only [dif, if_pos h2]
    rw [Nat.mod_eq_of_lt h2, ← e]
    exact Int.emod_eq_of_lt (by omega) hd.2
  · have e : dif B n k = B.getD 0 0 - B.getD k 0 + n := by simp only [dif, if_neg h2]
    rw [show k + 1 = B.length by omega, Nat.mod_self]
    rw [show B.getD 0 0 - B.getD k 0 = dif B n k - n by omega, Int.sub_emod, Int.emod_self, Int.sub_zero, Int.emod_emod_of_dvd _ (Int.dvd_refl _)]
    exact Int.emod_eq_of_lt (by omega) hd.2
theorem len2 {k : Nat} (h : k < B.length) : (B.getD k 0 - B.getD ((k + B.length - 1) % B.length) 0 - 1) % n + 1 = dif B n ((k + B.length - 1) % B.length) := by
  have hm : (k + B.length - 1) % B.length < B.length := Nat.mod_lt _ (by omega)
  have hd := dif_in hr hB hb hm
  by_cases h0 : k = 0
  · subst h0
    have e1 : (0 + B.length - 1) % B.length = B.length - 1 := by rw [Nat.zero_add]; exact Nat.mod_eq_of_lt (by omega)
    rw [e1] at hd ⊢
    have e : dif B n (B.length - 1) = B.getD 0 0 - B.getD (B.length - 1) 0 + n := by simp only [dif, if_neg (show ¬ (B.length - 1 + 1 < B.length) by omega)]
    rw [show B.getD 0 0 - B.getD (B.length - 1) 0 - 1 = (dif B n (B.length - 1) - 1) - n by omega, Int.sub_emod, Int.emod_self, Int.sub_zero, Int.emod_emod_of_dvd _ (Int.dvd_refl _), Int.emod_eq_of_lt (by omega) (by omega)]
    omega
  · have e1 : (k + B.length - 1) % B.length = k - 1 := by rw [show k + B.length - 1 = k - 1 + B.length by omega, Nat.add_mod_right, Nat.mod_eq_of_lt (by omega)]
    rw [e1] at hd ⊢
    have e : dif B n (k - 1) = B.getD k 0 - B.getD (k - 1) 0 := by
      simp only [dif, show k - 1 + 1 = k by omega, if_pos h]
    rw [← e, Int.emod_eq_of_lt (by omega) (by omega)]
    omega
end
def L1 (B : List Int) (n : Nat) : List Int := (List.range B.length).map fun k => (B.getD ((k + 1) % B.length) 0 - B.getD k 0) % n
def L2' (B : List Int) (n : Nat) : List Int := (List.range B.length).map fun k => (B.getD k 0 - B.getD ((k + B.length - 1) % B.length) 0 - 1) % n + 1
theorem L12 {B : List Int} {n : Nat} (hr : B.Pairwise (· < ·)) (hB : ∀ x ∈ B, 0 ≤ x ∧ x < n) (hb : 2 ≤ B.length) : (L2' B n).Perm (L1 B n) := by
  have e1 : L1 B n = (List.range (B.length - 1)).map (dif B n) ++ [dif B n (B.length - 1)] := by
    have e : B.length = (B.length - 1) + 1 := by omega
    have : L1 B n = (List.range B.length).map (dif B n) := List.map_congr_left fun k hk => len1 hr hB hb (by simpa using hk)
    rw [this]
    conv => lhs; rw [e]
    rw [List.range_succ, List.map_append]
    rfl
  have e2 : L2' B n = [dif B n (B.length - 1)] ++ (List.range (B.length - 1)).map (dif B n) := by
    have : L2' B n = (List.range B.length).map fun k => dif B n ((k + B.length - 1) % B.length) := List.map_congr_left fun k hk => len2 hr hB hb (by simpa using hk)
    rw [this]
    have e : B.length = (B.length - 1) + 1 := by omega
    have er : List.range B.length = 0 :: (List.range (B.length - 1)).map Nat.succ := by
      conv => lhs; rw [e]
      exact List.range_succ_eq_map
    rw [er, List.map_cons, List.map_map]
    show _ :: _ = _ :: _
    congr 1
    · rw [Nat.zero_add, Nat.mod_eq_of_lt (by omega)]
    · refine List.map_congr_left fun k hk => ?_
      have hk : k < B.length - 1 := by simpa using hk
      show dif B n ((k + 1 + B.length - 1) % B.length) = _
      rw [show k + 1 + B.length - 1 = k + B.length by omega, Nat.add_mod_right, Nat.mod_eq_of_lt (by omega)]
  rw [e1, e2]
  exact List.perm_append_comm
theorem L1_few {B : List Int} {n : Nat} (hr : B.Pairwise (· < ·)) (hB : ∀ x ∈ B, 0 ≤ x ∧ x < n) (hb : 2 ≤ B.length) (hn : n < 1000) : (sortU (L1 B n)).length < 64 := by
  have : L1 B n = (List.range B.length).map (dif B n) := List.map_congr_left fun k hk => len1 hr hB hb (by simpa using hk)
  rw [this]
  refine sortU_few (fun x hx => ?_) (by rw [sum_difs hr hB hb]; omega)
  obtain ⟨k, hk, rfl⟩ := List.mem_map.mp hx
  exact (dif_in hr hB hb (by simpa using hk)).1
end LK
namespace LK
open PySem LW
open L2 (atI ixN)

theorem zipT_ii : ∀ a b : List Int, a.length = b.length → zipT (ii a) (ii b) = (List.range a.length).map fun k => T.tup [.int (a.getD k 0), .int (b.getD k 0)]
  | [], b, h => by simp [zipT]
  | x :: a, [], h => by simp at h
  | x :: a, y :: b, h => by
    have ih := zipT_ii a b (by simpa using h)
    rw [List.length_cons, List.range_succ_eq_map, List.map_cons, List.map_map]
    simp only [ii, List.map_cons, zipT]
    rw [show zipT (List.map T.int a) (List.map T.int b) = _ from ih]
    rfl
theorem rot_getD {B : List Int} {k : Nat} (h : k < B.length) : (B.drop 1 ++ B.take 1).getD k 0 = B.getD ((k + 1) % B.length) 0 := by
  by_cases h2 : k + 1 < B.length
  · rw [getD_app1 (by rw [List.length_drop]; omega), getD_drop', Nat.mod_eq_of_lt h2, Nat.add_comm]
  · rw [getD_app2 (by rw [List.length_drop]; omega), List.length_drop, show k + 1 = B.length by omega, Nat.mod_self, show k - (B.length - 1) = 0 by omega]
    simp [List.getD_eq_getElem?_getD, List.getElem?_take]
def runsP (B : List Int) (n : Nat) : List (Int × Int) := (sortU (L1 B n)).map fun l => (l, ((L1 B n).count l : Nat))
theorem len_s1 {row : List Int} : dSet 1 (den1 gLen (gVar 0)) (R7 row .un .un .un .un .un .un) = some (.nx, R7 row (.t (.int row.length)) .un .un .un .un .un) := by
  have e : (ii row).length = row.length := by simp [ii]
  exact dSet_t (den1_eq (l1 := .t (.lst (ii row))) (ρ1 := R7 row .un .un .un .un .un .un) rfl (by simp only [gLen, L.lview, e, Option.map_some])) (show 1 < 7 from by decide)
theorem bgnI_len (row : List Int) : (bgnI row).length = (bgn row).length := by simp [bgnI]
theorem ev_runs_of {row : List Int} (h0 : 0 < row.length) (hz : row.length < 1000) (hf : (sortU (L1 (bgnI row) row.length)).length < 64) :
    f_runs_of [.lst (ii row)] = some (.own (.lst ((runsP (bgnI row) row.length).map pairT))) := by
  have hbl : (bgnI row).length ≤ row.length := by rw [bgnI_len]; exact bgn_len row
  have eb := ev_begun hz
  generalize bgnI row = B at hbl hf eb ⊢
  have s2 : dSet 2 _ (R7 row (.t (.int row.length)) .un .un .un .un .un) = some (.nx, R7 row (.t (.int row.length)) (.own (.lst (ii B))) .un .un .un .un) := dSet_o eb (show 2 < 7 from by decide)
  let ρ2 : REnv := R7 row (.t (.int row.length)) (.own (.lst (ii B))) .un .un .un .un
  have z2 : den2 gAdd (dSl (gVar 2) (dSome (gC (.int 1))) dNone) (dSl (gVar 2) dNone (dSome (gC (.int 1)))) ρ2 = some (.own (.lst (ii (B.drop 1 ++ B.take 1))), ρ2) := by
    have b1 : dSl (gVar 2) (dSome (gC (.int 1))) dNone ρ2 = some (.own (.lst (ii (B.drop 1))), ρ2) := by
      have := dSl_eq (d := gVar 2) (dl := dSome (gC (.int 1))) (dh := dNone) (ρ := ρ2) (l := .ref 2) (ρ1 := ρ2) rfl (dSome_eq (i := 1) (ρ1 := ρ2) rfl) (ρ3 := ρ2) rfl (gSl_o _ rfl)
      rw [cut_lo1, ii_drop] at this
      exact this
    have b2 : dSl (gVar 2) dNone (dSome (gC (.int 1))) ρ2 = some (.own (.lst (ii (B.take 1))), ρ2) := by
      have := dSl_eq (d := gVar 2) (dl := dNone) (dh := dSome (gC (.int 1))) (ρ := ρ2) (l := .ref 2) (ρ1 := ρ2) rfl (ρ2 := ρ2) rfl (dSome_eq (i := 1) (ρ1 := ρ2) rfl) (gSl_o _ rfl)
      rw [cut_hi1, ii_take] at this
      exact this
    have b3 := den2_eq b1 b2 (gAdd_o ρ2 (by simp only [ii, List.length_map, List.length_drop, List.length_take, line]; omega))
    rw [ii_append] at b3
    exact b3
  have zz : iZipT (gVar 2) (den2 gAdd (dSl (gVar 2) (dSome (gC (.int 1))) dNone) (dSl (gVar 2) dNone (dSome (gC (.int 1))))) ρ2 = some ((List.range B.length).map fun k => T.tup [.int (B.getD k 0), .int (B.getD ((k + 1) % B.length) 0)], some 2, ρ2) := by
    have e : zipT (ii B) (ii (B.drop 1 ++ B.take 1)) = (List.range B.length).map fun k => T.tup [.int (B.getD k 0), .int (B.getD ((k + 1) % B.length) 0)] := by
      rw [zipT_ii _ _ (by rw [List.length_append, List.length_drop, List.length_take]; omega)]
      refine List.map_congr_left fun k hk => ?_
      rw [rot_getD (by simpa using hk)]
    have g2 : gVar 2 ρ2 = some (.ref 2, ρ2) := rfl
    have lv : (L.ref 2).lview ρ2 = some (ii B) := rfl
    have lv2 : (L.own (.lst (ii (B.drop 1 ++ B.take 1)))).lview ρ2 = some (ii (B.drop 1 ++ B.take 1)) := rfl
    simp only [iZipT, g2, z2, Option.bind_some, lv, lv2, Option.map_some, L.hid, e]
  have c4 : compD (iZipT (gVar 2) (den2 gAdd (dSl (gVar 2) (dSome (gC (.int 1))) dNone) (dSl (gVar 2) dNone (dSome (gC (.int 1)))))) [5, 6] (gTupT 2 (gConsT (gNameT 5) (gConsT (gNameT 6) gNilT))) dYes (den2 gMod (den2 gSub (gVar 6) (gVar 5)) (gVar 1)) ρ2
      = some (.own (.lst ((List.range B.length).map fun k => T.int ((B.getD ((k + 1) % B.length) 0 - B.getD k 0) % row.length))), ρ2) := by
    have := compD_eq zz (vs := [5, 6]) (g := gTupT 2 (gConsT (gNameT 5) (gConsT (gNameT 6) gNilT))) (dt := dYes) (de := den2 gMod (den2 gSub (gVar 6) (gVar 5)) (gVar 1)) (ρ2 := R7 row (.t (.int row.length)) .un .un .un .un .un)
      (compL_m _ (fun k => T.int ((B.getD ((k + 1) % B.length) 0 - B.getD k 0) % row.length)) _ fun k hk => by
        let C : REnv := R7 row (.t (.int row.length)) .un .un .un (.t (.int (B.getD k 0))) (.t (.int (B.getD ((k + 1) % B.length) 0)))
        have c1 : (0 : Int) < row.length := by omega
        exact ⟨C, rfl, _, C, den2_eq (den2_eq (l1 := .t (.int (B.getD ((k + 1) % B.length) 0))) (l2 := .t (.int (B.getD k 0))) (ρ1 := C) (ρ2 := C) rfl rfl rfl) (l2 := .t (.int row.length)) (ρ2 := C) rfl (gMod_e _ c1), rfl, rfl⟩)
      (by simp only [List.length_map, List.length_range, line]; omega)
    exact this
  have eL : (List.range B.length).map (fun k => T.int ((B.getD ((k + 1) % B.length) 0 - B.getD k 0) % row.length)) = ii (L1 B row.length) := by rw [ii, L1, List.map_map]; rfl
  rw [eL] at c4
  let ρ4 : REnv := R7 row (.t (.int row.length)) (.own (.lst (ii B))) .un (.own (.lst (ii (L1 B row.length)))) .un .un
  have s4 : dSet 4 _ ρ2 = some (.nx, ρ4) := dSet_o c4 (show 4 < 7 from by decide)
  have src : iSeq (den1 gSortSet (gVar 4)) ρ4 = some ((sortU (L1 B row.length)).map T.int, none, ρ4) := by
    have g4 : gVar 4 ρ4 = some (.ref 4, ρ4) := rfl
    have lv : (L.ref 4).lview ρ4 = some (ii (L1 B row.length)) := rfl
    have le : (L1 B row.length).length ≤ 4000 := by simp only [L1, List.length_map, List.length_range]; omega
    have e : den1 gSortSet (gVar 4) ρ4 = some (.own (.lst ((sortU (L1 B row.length)).map T.int)), ρ4) := den1_eq g4 (by
      simp only [gSortSet, lv, Option.bind_some, asInts_map, le, hf, decide_true, Bool.and_self, if_true])
    simp only [iSeq, e, Option.bind_some, L.lview, Option.map_some, L.hid]
  have c5 : compD (iSeq (den1 gSortSet (gVar 4))) [5] (gNameT 5) dYes (dTup (dCons (gVar 5) (dCons (dVm vCountI (gVar 4) (gVar 5)) dNil))) ρ4 = some (.own (.lst ((runsP B row.length).map pairT)), ρ4) := by
    have er : (runsP B row.length).map pairT = (sortU (L1 B row.length)).map fun l => pairT (l, ((L1 B row.length).count l : Nat)) := by rw [runsP, List.map_map]; rfl
    rw [er]
    have := compD_eq src (vs := [5]) (g := gNameT 5) (dt := dYes) (de := dTup (dCons (gVar 5) (dCons (dVm vCountI (gVar 4) (gVar 5)) dNil))) (ρ2 := ρ4)
      (compL_m T.int (fun l => pairT (l, ((L1 B row.length).count l : Nat))) (sortU (L1 B row.length)) fun l hl => by
        let C : REnv := R7 row (.t (.int row.length)) (.own (.lst (ii B))) .un (.own (.lst (ii (L1 B row.length)))) (.t (.int l)) .un
        have g4 : gVar 4 C = some (.ref 4, C) := rfl
        have g5 : gVar 5 C = some (.t (.int l), C) := rfl
        have lv : (L.ref 4).lview C = some (ii (L1 B row.length)) := rfl
        have v : dVm vCountI (gVar 4) (gVar 5) C = some (.t (.int ((L1 B row.length).count l : Nat)), C) := by
          simp only [dVm, g4, g5, Option.bind_some, lv, gVm, L.view, vCountI, asInts_map, Option.map_some]
        refine ⟨C, rfl, .t (pairT (l, ((L1 B row.length).count l : Nat))), C, ?_, rfl, rfl⟩
        have a : dCons (gVar 5) (dCons (dVm vCountI (gVar 4) (gVar 5)) dNil) C = some ([.int l, .int ((L1 B row.length).count l : Nat)], C) := dCons_eq g5 rfl (dCons_eq v rfl rfl)
        simp only [dTup, a, Option.bind_some, List.length_cons, List.length_nil, show 0 + 1 + 1 ≤ line from by decide, if_true]
        rfl)
      (by rw [List.length_map]; simp only [line]; omega)
    exact this
  refine bodyP_own (ρ' := ρ4) rfl ?_
  show d_runs_of (R7 row .un .un .un .un .un .un) = _
  rw [d_runs_of, dSeq_nx len_s1, dSeq_nx s2]
  show dSeq _ _ ρ2 = _
  rw [dSeq_nx s4]
  exact dRet_eq c5
end LK
namespace LK
open PySem LW
open L2 (atI ixN)

def cget (q : List (Int × Int)) (l : Int) : Int := ((q.find? fun z => decide (z.1 = l)).map (·.2)).getD 0
def bump (q : List (Int × Int)) (l : Int) : List (Int × Int) :=
  if (q.any fun z => decide (z.1 = l)) = true then q.map (fun z => if z.1 = l then (z.1, cget q l + 1) else z) else q ++ [(l, cget q l + 1)]
def kv (q : List (Int × Int)) : List (L2.Key × T) := q.map fun z => ((Sum.inl z.1 : L2.Key), T.int z.2)
theorem inl_eq (a b : Int) : decide ((Sum.inl a : L2.Key) = Sum.inl b) = decide (a = b) := by simp
theorem kv_get (l : Int) : ∀ q : List (Int × Int), (LW.getD (kv q) (.inl l)).getD (.int 0) = .int (cget q l)
  | [] => rfl
  | z :: q => by
    have ih := kv_get l q
    simp only [LW.getD, cget, kv, List.map_cons, List.find?_cons, inl_eq] at ih ⊢
    cases h : decide (z.1 = l) with
    | true => rfl
    | false => exact ih
theorem kv_any (l : Int) (q : List (Int × Int)) : ((kv q).any fun z => decide (z.1 = .inl l)) = q.any fun z => decide (z.1 = l) := by
  induction q with
  | nil => rfl
  | cons z q ih => simp only [kv, List.map_cons, List.any_cons, inl_eq] at ih ⊢; rw [ih]
theorem kv_put (q : List (Int × Int)) (l : Int) : putD (kv q) (.inl l) (.int (cget q l + 1)) = kv (bump q l) := by
  unfold putD bump
  rw [kv_any]
  generalize cget q l + 1 = v
  by_cases h : (q.any fun z => decide (z.1 = l)) = true
  · rw [if_pos h, if_pos h]
    simp only [kv, List.map_map]
    refine List.map_congr_left fun z _ => ?_
    show (if (Sum.inl z.1 : L2.Key) = Sum.inl l then _ else _) = _
    by_cases e : z.1 = l
    · simp [e]
    · simp [e]
  · rw [if_neg h, if_neg h]
    simp [kv]
structure Cnt (q : List (Int × Int)) (L : List Int) : Prop where
  nd : (q.map (·.1)).Nodup
  mem : ∀ z, z ∈ q ↔ z.1 ∈ L ∧ z.2 = (L.count z.1 : Nat)
theorem cget_cnt {q : List (Int × Int)} {L : List Int} (h : Cnt q L) (l : Int) : cget q l = (L.count l : Nat) ∧ ((q.any fun z => decide (z.1 = l)) = true ↔ l ∈ L) := by
  unfold cget
  cases e : q.find? fun z => decide (z.1 = l) with
  | some z =>
    have h1 := List.find?_some e
    have h1 : z.1 = l := by simpa using h1
    have h2 := (h.mem z).mp (List.mem_of_find?_eq_some e)
    refine ⟨?_, fun _ => h1 ▸ h2.1, fun _ => List.any_eq_true.mpr ⟨z, List.mem_of_find?_eq_some e, by simpa using h1⟩⟩
    show z.2 = _
    rw [h2.2, h1]
  | none =>
    have h1 := List.find?_eq_none.mp e
    have hl : l ∉ L := fun hl => by
      have := h1 (l, (L.count l : Nat)) ((h.mem _).mpr ⟨hl, rfl⟩)
      simp at this
    refine ⟨?_, fun ha => ?_, fun hl' => absurd hl' hl⟩
    · rw [List.count_eq_zero_of_not_mem hl]; rfl
    · obtain ⟨z, hz, e2⟩ := List.any_eq_true.mp ha
      exact absurd e2 (h1 z hz)
theorem cnt_step {q : List (Int × Int)} {L : List Int} (h : Cnt q L) (l : Int) : Cnt (bump q l) (L ++ [l]) := by
  obtain ⟨hc, ha⟩ := cget_cnt h l
  have cnt : ∀ x, (L ++ [l]).count x = L.count x + if x = l then 1 else 0 := fun x => by
    rw [List.count_append]
    congr 1
    by_cases e : x = l
    · subst e; simp
    · simp [e, List.count_cons, Ne.symm e]
  unfold bump
  by_cases hl : l ∈ L
  · rw [if_pos (ha.mpr hl), hc]
    refine ⟨?_, fun z => ?_⟩
    · have : (q.map fun z => if z.1 = l then (z.1, ((L.count l : Nat) : Int) + 1) else z).map (·.1) = q.map (·.1) := by
        rw [List.map_map]
        refine List.map_congr_left fun z _ => ?_
        show (if z.1 = l then _ else z).1 = z.1
        split <;> rfl
      rw [this]
      exact h.nd
    · have m1 : z.1 ∈ L ++ [l] ↔ z.1 ∈ L := by
        rw [List.mem_append, List.mem_singleton]
        exact ⟨fun h => h.elim id fun e => e ▸ hl, .inl⟩
      rw [m1, cnt]
      constructor
      · intro hz
        obtain ⟨y, hy, e⟩ := List.mem_map.mp hz
        have hy := (h.mem y).mp hy
        by_cases e2 : y.1 = l
        · rw [if_pos e2] at e
          subst e
          refine ⟨hy.1, ?_⟩
          show ((L.count l : Nat) : Int) + 1 = _
          rw [if_pos e2, e2]
          simp
        · rw [if_neg e2] at e
          subst e
          exact ⟨hy.1, by rw [if_neg e2, Nat.add_zero]; exact hy.2⟩
      · rintro ⟨h1, h2⟩
        by_cases e2 : z.1 = l
        · rw [if_pos e2] at h2
          refine List.mem_map.mpr ⟨(l, (L.count l : Nat)), (h.mem _).mpr ⟨hl, rfl⟩, ?_⟩
          rw [if_pos rfl]
          exact Prod.ext e2.symm (by rw [h2, e2]; simp)
        · rw [if_neg e2, Nat.add_zero] at h2
          exact List.mem_map.mpr ⟨z, (h.mem z).mpr ⟨h1, h2⟩, if_neg e2⟩
  · rw [if_neg fun z => hl (ha.mp z), hc, List.count_eq_zero_of_not_mem hl]
    refine ⟨?_, fun z => ?_⟩
    · rw [List.map_append]
      refine List.nodup_append.mpr ⟨h.nd, by simp, fun a ha b hb e => ?_⟩
      have hb : b = l := by simpa using hb
      obtain ⟨z, hz, e3⟩ := List.mem_map.mp ha
      have := ((h.mem z).mp hz).1
      exact hl (by rw [← hb, ← e, ← e3]; exact this)
    · rw [List.mem_append, List.mem_append, List.mem_singleton, List.mem_singleton, cnt]
      constructor
      · rintro (hz | rfl)
        · have hz := (h.mem z).mp hz
          have : z.1 ≠ l := fun e => hl (e ▸ hz.1)
          exact ⟨.inl hz.1, by rw [if_neg this, Nat.add_zero]; exact hz.2⟩
        · refine ⟨.inr rfl, ?_⟩
          rw [if_pos rfl, List.count_eq_zero_of_not_mem hl]
          rfl
      · rintro ⟨h1, h2⟩
        by_cases e2 : z.1 = l
        · right
          rw [if_pos e2, e2, List.count_eq_zero_of_not_mem hl] at h2
          exact Prod.ext e2 h2
        · left
          rw [if_neg e2, Nat.add_zero] at h2
          exact (h.mem z).mpr ⟨h1.elim id fun e => absurd e e2, h2⟩
theorem cnt_all : ∀ (L M : List Int) (q : List (Int × Int)), Cnt q M → Cnt (L.foldl bump q) (M ++ L)
  | [], M, q, h => by rw [List.append_nil]; exact h
  | l :: L, M, q, h => by
    have := cnt_all L (M ++ [l]) (bump q l) (cnt_step h l)
    rw [List.append_assoc] at this
    exact this
/-- sorted, they are the counts by rising length -/
theorem sort_cnt {q : List (Int × Int)} {L M : List Int} (h : Cnt q L) (hp : L.Perm M) : sortP q = (sortU M).map fun l => (l, ((M.count l : Nat) : Int)) := by
  have ndq : q.Nodup := by
    have := h.nd
    exact List.Pairwise.of_map _ (fun a b hab e => hab (by rw [e])) this
  have rs := sortU_sorted M
  have nd2 : ((sortU M).map fun l => (l, ((M.count l : Nat) : Int))).Nodup := by
    refine List.pairwise_map.mpr (List.Pairwise.imp (fun {a b} hab e => ?_) rs)
    have := congrArg Prod.fst e
    simp at this
    omega
  refine lex_unique ((sortP_perm q).trans ((List.perm_ext_iff_of_nodup ndq nd2).mpr fun z => ?_)) (sortP_sorted q) ?_
  · rw [h.mem, List.mem_map]
    constructor
    · rintro ⟨h1, h2⟩
      exact ⟨z.1, mem_sortU.mpr (hp.mem_iff.mp h1), Prod.ext rfl (by rw [h2, hp.count_eq])⟩
    · rintro ⟨l, hl, rfl⟩
      exact ⟨hp.mem_iff.mpr (mem_sortU.mp hl), by rw [hp.count_eq]⟩
  · refine List.pairwise_map.mpr (List.Pairwise.imp (fun {a b} hab => ?_) rs)
    exact .inl hab
end LK
namespace LK
open PySem LW
open L2 (atI ixN)

theorem bump_len (q : List (Int × Int)) (l : Int) : (bump q l).length ≤ q.length + 1 := by
  unfold bump
  split
  · simp
  · simp
theorem bumps_len : ∀ (L : List Int) (q : List (Int × Int)), (L.foldl bump q).length ≤ q.length + L.length
  | [], q => by simp
  | l :: L, q => by
    have h1 := bump_len q l
    have h2 := bumps_len L (bump q l)
    simp only [List.foldl_cons, List.length_cons]
    omega
theorem gSort_pairs (ρ : REnv) (q : List (Int × Int)) : gSort ρ (.own (.lst (q.map pairT))) = some (.own (.lst ((sortP q).map pairT))) := by
  cases q with
  | nil => rfl
  | cons z q =>
    have e : gSortI ρ (.own (.lst ((z :: q).map pairT))) = none := rfl
    simp only [gSort, e, gSortP, L.lview, Option.bind_some, asPairs_map, Option.map_some]
theorem noDs_ii : ∀ a : List Int, T.noDs (ii a) = true
  | [] => rfl
  | x :: a => by simp only [ii, List.map_cons, T.noDs, T.noD, Bool.true_and]; exact noDs_ii a
theorem noDs_pairs : ∀ q : List (Int × Int), T.noDs (q.map pairT) = true
  | [] => rfl
  | z :: q => by
    have : (pairT z).noD = true := rfl
    simp only [List.map_cons, T.noDs, this, Bool.true_and]
    exact noDs_pairs q
theorem kv_find : ∀ {q : List (Int × Int)} {z : Int × Int}, (q.map (·.1)).Nodup → z ∈ q → LW.getD (kv q) (.inl z.1) = some (.int z.2)
  | y :: q, z, nd, hz => by
    simp only [List.map_cons, List.nodup_cons] at nd
    simp only [LW.getD, kv, List.map_cons, List.find?_cons, inl_eq]
    rcases List.mem_cons.mp hz with rfl | hz
    · simp
    · have : y.1 ≠ z.1 := fun e => nd.1 (e ▸ List.mem_map.mpr ⟨z, hz, rfl⟩)
      rw [decide_eq_false this]
      exact kv_find nd.2 hz
theorem kv_zip (q : List (Int × Int)) : ((kv q).map (·.1)).zip ((kv q).map (·.2)) = kv q := by
  induction q with
  | nil => rfl
  | cons z q ih => simp only [kv, List.map_cons, List.zip_cons_cons] at ih ⊢; rw [ih]
def len2f (B : List Int) (n : Nat) (k : Nat) : Int := (B.getD k 0 - B.getD ((k + B.length - 1) % B.length) 0 - 1) % n + 1
theorem ev_law_runs_loop {row B : List Int} (h0 : 0 < row.length) (hbl : B.length < 1000) :
    ∃ x y, x.noD = true ∧ y.noD = true ∧ dFor [5, 6] (iRange1 (dCons (den1 gLen (gVar 2)) dNil)) (gNameT 5) (dSeq (dSet 6 (den2 gAdd (den2 gMod (den1 gInt (den2 gSub (den2 gSub (den2 gIx (gVar 2) (gVar 5)) (den2 gIx (gVar 2) (den2 gSub (gVar 5) (gC (.int 1))))) (gC (.int 1)))) (gVar 1)) (gC (.int 1))))
  (dDput 4 (gVar 6) (den2 gAdd (dDget2 (gVar 4) (gVar 6) (gC (.int 0))) (gC (.int 1))))) (R7 row (.t (.int row.length)) (.own (.lst (ii B))) .un (.own (.dK [])) .un .un) = some (.nx, R7 row (.t (.int row.length)) (.own (.lst (ii B))) .un (.own (.dK (kv ((L2' B row.length).foldl bump [])))) x y) := by
  let E (q : List (Int × Int)) (x y : L) : REnv := R7 row (.t (.int row.length)) (.own (.lst (ii B))) .un (.own (.dK (kv q))) x y
  let qk (k : Nat) : List (Int × Int) := ((List.range k).map (len2f B row.length)).foldl bump []
  have c1 : (0 : Int) < row.length := by omega
  obtain ⟨ρ', hf, x, y, hx, hy, rfl⟩ := forL_range (g := gNameT 5) (db := dSeq (dSet 6 (den2 gAdd (den2 gMod (den1 gInt (den2 gSub (den2 gSub (den2 gIx (gVar 2) (gVar 5)) (den2 gIx (gVar 2) (den2 gSub (gVar 5) (gC (.int 1))))) (gC (.int 1)))) (gVar 1)) (gC (.int 1))))
  (dDput 4 (gVar 6) (den2 gAdd (dDget2 (gVar 4) (gVar 6) (gC (.int 0))) (gC (.int 1))))) (fun k ρ => ∃ x y : L, x.noD = true ∧ y.noD = true ∧ ρ = E (qk k) x y) B.length (by
    rintro k ρ hk ⟨x, y, hx, hy, rfl⟩
    let C : REnv := E (qk k) (.t (.int k)) y
    let D : REnv := E (qk k) (.t (.int k)) (.t (.int (len2f B row.length k)))
    refine ⟨C, E (qk (k + 1)) (.t (.int k)) (.t (.int (len2f B row.length k))), rfl, ?_, _, _, rfl, rfl, rfl⟩
    have e1 := ix_ii hk
    have e2 := ix_prev hk
    have a1 : den2 gIx (gVar 2) (gVar 5) C = some (.t (.int (B.getD k 0)), C) := den2_eq (l1 := .ref 2) (l2 := .t (.int k)) (ρ1 := C) rfl rfl (gIx_o _ rfl e1)
    have a2 : den2 gSub (gVar 5) (gC (.int 1)) C = some (.t (.int ((k : Int) - 1)), C) := den2_eq (l1 := .t (.int k)) (l2 := .t (.int 1)) (ρ1 := C) rfl rfl rfl
    have a3 : den2 gIx (gVar 2) (den2 gSub (gVar 5) (gC (.int 1))) C = some (.t (.int (prv B k)), C) := den2_eq (l1 := .ref 2) (ρ1 := C) rfl a2 (gIx_o _ rfl e2)
    have a4 : den2 gSub (den2 gIx (gVar 2) (gVar 5)) (den2 gIx (gVar 2) (den2 gSub (gVar 5) (gC (.int 1)))) C = some (.t (.int (B.getD k 0 - prv B k)), C) := den2_eq a1 a3 rfl
    have a5 : den1 gInt (den2 gSub (den2 gSub (den2 gIx (gVar 2) (gVar 5)) (den2 gIx (gVar 2) (den2 gSub (gVar 5) (gC (.int 1))))) (gC (.int 1))) C = some (.t (.int (B.getD k 0 - prv B k - 1)), C) := den1_eq (den2_eq a4 (l2 := .t (.int 1)) (ρ2 := C) rfl rfl) (gInt_i _ _)
    have a6 := den2_eq (den2_eq a5 (d2 := gVar 1) (l2 := .t (.int row.length)) (ρ2 := C) rfl (gMod_e _ c1)) (d2 := gC (.int 1)) (l2 := .t (.int 1)) (ρ2 := C) rfl (gAdd_i _ _ _)
    have s1 : dSet 6 _ C = some (.nx, D) := dSet_t a6 (show 6 < 7 from by decide)
    have g4 : gVar 4 D = some (.ref 4, D) := rfl
    have g6 : gVar 6 D = some (.t (.int (len2f B row.length k)), D) := rfl
    have g0 : gC (.int 0) D = some (.t (.int 0), D) := rfl
    have dv : (L.ref 4).dview D = some (kv (qk k)) := rfl
    have b1 : dDget2 (gVar 4) (gVar 6) (gC (.int 0)) D = some (.t (.int (cget (qk k) (len2f B row.length k))), D) := by
      simp only [dDget2, g4, g6, g0, dv, Option.bind_some, Option.map_some, L.tree, T.key, kv_get]
    have b2 : den2 gAdd (dDget2 (gVar 4) (gVar 6) (gC (.int 0))) (gC (.int 1)) D = some (.t (.int (cget (qk k) (len2f B row.length k) + 1)), D) := den2_eq b1 (l2 := .t (.int 1)) (ρ2 := D) rfl (gAdd_i _ _ _)
    have own : isOwnD D 4 = true := rfl
    have d4 : (D : List L)[4]? = some (.own (.dK (kv (qk k)))) := rfl
    have ql : (kv (qk k)).length < line := by
      have := bumps_len ((List.range k).map (len2f B row.length)) []
      simp only [List.length_map, List.length_range, List.length_nil] at this
      simp only [kv, List.length_map, line, qk]
      omega
    have eq1 : qk (k + 1) = bump (qk k) (len2f B row.length k) := by
      show ((List.range (k + 1)).map (len2f B row.length)).foldl bump [] = _
      rw [List.range_succ, List.map_append, List.foldl_append]
      rfl
    rw [dSeq_nx s1, eq1]
    simp only [dDput, b2, Option.bind_some, L.tree, own, if_true, g6, T.key, d4, ql, kv_put]
    rfl) (E [] .un .un) ⟨.un, .un, rfl, rfl, rfl⟩
  refine ⟨x, y, hx, hy, dFor_eq (iRange1_eq (d := den1 gLen (gVar 2)) (ρ := E [] .un .un) (ρ' := E [] .un .un) (n := B.length) ?_ (by omega)) hf⟩
  have e : (ii B).length = B.length := by simp [ii]
  have lv : (L.ref 2).lview (E [] .un .un) = some (ii B) := rfl
  exact den1_eq (l1 := .ref 2) (ρ1 := E [] .un .un) rfl (by simp only [gLen, lv, e, Option.map_some])
end LK
namespace LK
open PySem LW
open L2 (atI ixN)

theorem ev_law_runs {row : List Int} (h0 : 0 < row.length) (hz : row.length < 1000) :
    f__law_runs [.lst (ii row)] = some (.own (.lst ((runsP (bgnI row) row.length).map pairT))) := by
  have hbl : (bgnI row).length ≤ row.length := by rw [bgnI_len]; exact bgn_len row
  have hb1 : (bgnI row).length ≠ 1 := by rw [bgnI_len]; exact bgn_ne_one row
  have hrise : (bgnI row).Pairwise (· < ·) := List.pairwise_map.mpr (List.Pairwise.imp (fun {a b} h => by omega) (bgn_rise row))
  have hin : ∀ x ∈ bgnI row, 0 ≤ x ∧ x < row.length := fun x hx => by
    obtain ⟨i, hi, rfl⟩ := List.mem_map.mp hx
    have := bgn_lt hi
    omega
  have eb := ev_begun hz
  generalize bgnI row = B at hbl hb1 hrise hin eb ⊢
  obtain ⟨x, y, hx, hy, hl⟩ := ev_law_runs_loop (B := B) h0 (by omega)
  have hperm : (L2' B row.length).Perm (L1 B row.length) := by
    by_cases h : B.length = 0
    · simp only [L2', L1, h]
      exact .refl _
    · exact L12 hrise hin (by omega)
  have cn : Cnt ((L2' B row.length).foldl bump []) (L2' B row.length) := by
    have := cnt_all (L2' B row.length) [] [] ⟨List.nodup_nil, fun z => by simp⟩
    simpa using this
  have ql : ((L2' B row.length).foldl bump []).length ≤ row.length := by
    have := bumps_len (L2' B row.length) []
    simp only [L2', List.length_map, List.length_range, List.length_nil] at this ⊢
    omega
  have es := sort_cnt cn hperm
  generalize (L2' B row.length).foldl bump [] = q at hl cn ql es
  let ρ3 : REnv := R7 row (.t (.int row.length)) (.own (.lst (ii B))) .un (.own (.dK (kv q))) x y
  let ρL (z : L) : REnv := R7 row (.t (.int row.length)) (.own (.lst (ii B))) .un (.t (.dic true ((kv q).map (·.1)) ((kv q).map (·.2)))) x z
  have s2 : dSet 2 _ (R7 row (.t (.int row.length)) .un .un .un .un .un) = some (.nx, R7 row (.t (.int row.length)) (.own (.lst (ii B))) .un .un .un .un) := dSet_o eb (show 2 < 7 from by decide)
  have s3 : dSet 4 dDicK (R7 row (.t (.int row.length)) (.own (.lst (ii B))) .un .un .un .un) = some (.nx, R7 row (.t (.int row.length)) (.own (.lst (ii B))) .un (.own (.dK [])) .un .un) := rfl
  have src : iKeysT (gVar 4) (ρL y) = some (q.map fun z => T.int z.1, none, ρL y) := by
    have g4 : gVar 4 (ρL y) = some (.t (.dic true ((kv q).map (·.1)) ((kv q).map (·.2))), ρL y) := rfl
    have e : ((kv q).map (·.1)).map keyT = q.map fun z => T.int z.1 := by simp only [kv, List.map_map]; rfl
    simp only [iKeysT, g4, Option.bind_some, e]
  have cm : compD (iKeysT (gVar 4)) [6] (gNameT 6) dYes (dTup (dCons (gVar 6) (dCons (den2 gDget (gVar 4) (gVar 6)) dNil))) (ρL y) = some (.own (.lst (q.map pairT)), ρL y) := by
    have := compD_eq src (vs := [6]) (g := gNameT 6) (dt := dYes) (de := dTup (dCons (gVar 6) (dCons (den2 gDget (gVar 4) (gVar 6)) dNil))) (ρ2 := ρL .un)
      (compL_m (fun z : Int × Int => T.int z.1) pairT q fun z hz => by
        let C : REnv := ρL (.t (.int z.1))
        have g6 : gVar 6 C = some (.t (.int z.1), C) := rfl
        have dv : (L.t (.dic true ((kv q).map (·.1)) ((kv q).map (·.2)))).dview C = some (kv q) := by simp only [L.dview, kv_zip]
        have a1 : den2 gDget (gVar 4) (gVar 6) C = some (.t (.int z.2), C) := den2_eq (l1 := .t (.dic true ((kv q).map (·.1)) ((kv q).map (·.2)))) (l2 := .t (.int z.1)) (ρ1 := C) (ρ2 := C) rfl rfl (by
          simp only [gDget, dv, Option.bind_some, L.view, T.key, kv_find cn.nd hz, Option.map_some])
        have a : dCons (gVar 6) (dCons (den2 gDget (gVar 4) (gVar 6)) dNil) C = some ([.int z.1, .int z.2], C) := dCons_eq g6 rfl (dCons_eq a1 rfl rfl)
        refine ⟨C, rfl, .t (pairT z), C, ?_, rfl, rfl⟩
        simp only [dTup, a, Option.bind_some, List.length_cons, List.length_nil, show 0 + 1 + 1 ≤ line from by decide, if_true]
        rfl)
      (by rw [List.length_map]; simp only [line]; omega)
    exact this
  have lk : dLock 4 (compD (iKeysT (gVar 4)) [6] (gNameT 6) dYes (dTup (dCons (gVar 6) (dCons (den2 gDget (gVar 4) (gVar 6)) dNil)))) ρ3 = some (.own (.lst (q.map pairT)), ρ3) := by
    have r4 : (ρ3 : List L)[4]? = some (.own (.dK (kv q))) := rfl
    have st : (ρ3 : List L).set 4 (.t (.dic true ((kv q).map (·.1)) ((kv q).map (·.2)))) = ρL y := rfl
    have r5 : (ρL y : List L)[4]? = some (.t (.dic true ((kv q).map (·.1)) ((kv q).map (·.2)))) := rfl
    have p1 : (L.own (.lst (q.map pairT))).plain = true := rfl
    have p2 : (L.own (.lst (q.map pairT))).noD = true := noDs_pairs q
    have p3 : ((ρL y : List L).set 4 L.un).all L.noD = true := by
      have e1 : (L.t (.lst (ii row))).noD = true := noDs_ii row
      have e2 : (L.own (.lst (ii B))).noD = true := noDs_ii B
      show ((L.t (.lst (ii row))).noD && (true && ((L.own (.lst (ii B))).noD && (true && (true && (x.noD && (y.noD && true))))))) = true
      rw [e1, e2, hx, hy]
      rfl
    have p4 : T.noDs ((kv q).map (·.2)) = true := by
      have e : (kv q).map (·.2) = ii (q.map (·.2)) := by simp only [kv, ii, List.map_map]; rfl
      rw [e]
      exact noDs_ii _
    have st2 : (ρL y : List L).set 4 (.own (.dK (kv q))) = ρ3 := rfl
    simp only [dLock, r4, st, cm, Option.bind_some, p1, p2, p3, Bool.and_self, if_true, r5, p4, kv_zip, st2]
  have fin := den1_eq lk (gSort_pairs ρ3 q)
  rw [es] at fin
  refine bodyP_own (ρ' := ρ3) rfl ?_
  show d__law_runs (R7 row .un .un .un .un .un .un) = _
  rw [d__law_runs, dSeq_nx len_s1, dSeq_nx s2, dSeq_nx s3, dSeq_nx hl]
  exact dRet_eq fin
theorem runs_few {row : List Int} (h0 : 0 < row.length) (hz : row.length < 1000) : (sortU (L1 (bgnI row) row.length)).length < 64 := by
  have hb1 : (bgnI row).length ≠ 1 := by rw [bgnI_len]; exact bgn_ne_one row
  have hrise : (bgnI row).Pairwise (· < ·) := List.pairwise_map.mpr (List.Pairwise.imp (fun {a b} h => by omega) (bgn_rise row))
  have hin : ∀ x ∈ bgnI row, 0 ≤ x ∧ x < row.length := fun x hx => by
    obtain ⟨i, hi, rfl⟩ := List.mem_map.mp hx
    have := bgn_lt hi
    omega
  by_cases h : (bgnI row).length = 0
  · simp only [L1, h, List.range_zero, List.map_nil, sortU]
    exact (show 0 < 64 from by decide)
  · exact L1_few hrise hin (by omega) hz
end LK
namespace LK
open PySem LW
open L2 (atI ixN)

/-! ### draws within expressions -/
theorem draw_call {i : Nat} {da : DenA} {ρ ρ1 : REnv} {fd : List T} {m : Int} (ho : isOwnL ρ i = true) (ha : da ρ = some ([.int m], ρ1)) (h1 : ρ1[i]? = some (.own (.lst fd))) (hf : GF fd) (hm : 0 < m) (hm2 : m < 1073741824) :
    ∃ v fd', dCallF 2 i g__law_draw da ρ = some (.t (.int v), ρ1.set i (.own (.lst fd'))) ∧ 0 ≤ v ∧ v < m ∧ GF fd' := by
  obtain ⟨v, fd', e, h2, h3, h4⟩ := ev_draw hf hm hm2
  refine ⟨v, fd', ?_, h2, h3, h4⟩
  simp only [dCallF, ho, ha, h1, e, if_true, Option.bind_some, List.length_cons, List.length_nil, Nat.zero_add, Nat.reduceAdd, nor, Option.map_some]
/-- a comprehension of draws -/
theorem compL_draw {vs : List Nat} {g : DenG} {de : Den} {m : Int} (Ef : List T → REnv) : ∀ xs : List T,
    (∀ x ∈ xs, ∀ fd, GF fd → ∃ ρa v fd' ρb, g x (Ef fd) = some ρa ∧ de ρa = some (.t (.int v), ρb) ∧ wipeE ρb vs = Ef fd' ∧ 0 ≤ v ∧ v < m ∧ GF fd') →
    ∀ fd, GF fd → ∃ ys fd', compL vs g dYes de xs (Ef fd) = some (ii ys, Ef fd') ∧ ys.length = xs.length ∧ (∀ y ∈ ys, 0 ≤ y ∧ y < m) ∧ GF fd'
  | [], _, fd, hf => ⟨[], fd, rfl, rfl, (fun y hy => by cases hy), hf⟩
  | x :: xs, h, fd, hf => by
    obtain ⟨ρa, v, fd1, ρb, h1, h2, h3, h4, h5, h6⟩ := h x List.mem_cons_self fd hf
    obtain ⟨ys, fd2, h7, h8, h9, h10⟩ := compL_draw Ef xs (fun y hy => h y (List.mem_cons_of_mem _ hy)) fd1 h6
    refine ⟨v :: ys, fd2, ?_, by simp [h8], fun y hy => ?_, h10⟩
    · simp only [compL, h1, Option.bind_some, dYes, if_true, h2, L.tree, h3, h7, Option.map_some, ii, List.map_cons]
    · rcases List.mem_cons.mp hy with rfl | hy
      · exact ⟨h4, h5⟩
      · exact h9 y hy
end LK
namespace LK
open PySem LW
open L2 (atI ixN)

theorem turn_getD {a : List Int} {t j : Nat} (ht : t < a.length) (hj : j < a.length) : (a.drop t ++ a.take t).getD j 0 = a.getD ((j + t) % a.length) 0 := by
  by_cases h : j + t < a.length
  · rw [getD_app1 (by rw [List.length_drop]; omega), getD_drop', Nat.mod_eq_of_lt h, Nat.add_comm]
  · rw [getD_app2 (by rw [List.length_drop]; omega), List.length_drop, Nat.mod_eq_sub_mod (by omega), Nat.mod_eq_of_lt (by omega)]
    have e : (a.take t).getD (j - (a.length - t)) 0 = a.getD (j - (a.length - t)) 0 := by simp [List.getD_eq_getElem?_getD, List.getElem?_take, show j - (a.length - t) < t by omega]
    rw [e]
    congr 1
    omega
theorem turn_len {a : List Int} {t : Nat} (ht : t < a.length) : (a.drop t ++ a.take t).length = a.length := by
  rw [List.length_append, List.length_drop, List.length_take]
  omega
theorem agr_turn {row other : List Int} {t s : Nat} (hl : other.length = row.length) (ht : t < row.length) (hs : s < row.length) : agr row (other.drop t ++ other.take t) s = agr row other ((s + t) % row.length) := by
  unfold agr
  congr 2
  refine List.filter_congr fun i hi => ?_
  have hi : i < row.length := by simpa using hi
  have hm : (i + s) % row.length < other.length := by rw [hl]; exact Nat.mod_lt _ (by omega)
  rw [turn_getD (by omega) hm, hl]
  congr 2
  rw [Nat.mod_add_mod, Nat.add_mod_mod, Nat.add_assoc]
theorem agr_turns {row other : List Int} {t : Nat} (hl : other.length = row.length) (ht : t < row.length) :
    (List.range row.length).map (agr row (other.drop t ++ other.take t)) = ((List.range row.length).map (agr row other)).drop t ++ ((List.range row.length).map (agr row other)).take t := by
  have hc : ((List.range row.length).map (agr row other)).length = row.length := by simp
  refine ext_getD (by rw [turn_len (by rw [hc]; exact ht)]; simp) fun i hi => ?_
  have hi : i < row.length := by simpa using hi
  rw [getD_range hi, turn_getD (by rw [hc]; exact ht) (by rw [hc]; exact hi), hc, getD_range (Nat.mod_lt _ (by omega)), agr_turn hl ht hi]
theorem agr_self (row : List Int) : agr row row 0 = row.length := by
  unfold agr
  have : (List.range row.length).filter (fun i => decide (row.getD i 0 = row.getD ((i + 0) % row.length) 0)) = List.range row.length := by
    refine List.filter_eq_self.mpr fun i hi => ?_
    have hi : i < row.length := by simpa using hi
    rw [Nat.add_zero, Nat.mod_eq_of_lt hi]
    simp
  rw [this, List.length_range]
end LK
namespace LK
open PySem LW
open L2 (atI ixN)

theorem eqv_two (a b : List Int) : T.eqv (.lst [.lst (ii a), .lst (ii b)]) (.lst [.lst (ii a), .lst (ii b)]) = true := by
  have h1 : PyData.eqvAll (T.pys (ii a)) (T.pys (ii a)) = true := by rw [eqvAll_ii]; simp
  have h2 : PyData.eqvAll (T.pys (ii b)) (T.pys (ii b)) = true := by rw [eqvAll_ii]; simp
  simp only [T.eqv, T.py, T.pys, PyData.eqv, PyData.eqvAll, h1, h2, Bool.and_self]
theorem shp_two (a b : List Int) : (T.lst [.lst (ii a), .lst (ii b)]).shp = true := by
  have h1 : T.clns (ii a) = true := clns_ii a
  have h2 : T.clns (ii b) = true := clns_ii b
  have h3 : T.deps (ii a) = 0 := deps_ii a
  have h4 : T.deps (ii b) = 0 := deps_ii b
  simp only [T.shp, T.cln, T.clns, T.dep, T.deps, h1, h2, h3, h4, Bool.and_self]
  rfl
theorem eqOk_two (a b : List Int) : eqOk (.lst [.lst (ii a), .lst (ii b)]) (.lst [.lst (ii a), .lst (ii b)]) = true := by
  simp only [eqOk, shp_two, Bool.and_self, Bool.or_true]
end LK
namespace LK
open PySem LW
open L2 (atI ixN)

/-- the slots of _law_shifted -/
def S9 (fd : List T) (n : Nat) (a b c d e f g : L) : REnv := [.own (.lst fd), .t (.int n), a, b, c, d, e, f, g]
def Prm (n : Nat) : Prop := n = 2 ∨ n = 3 ∨ n = 5 ∨ n = 7
/-- how long registers may be -/
def most (n : Nat) : Nat := if n = 2 then 4 else if n = 3 then 4 else if n = 5 then 3 else 2
theorem most_pow {n s : Nat} (h : Prm n) (hs : s ≤ most n) : n ^ s ≤ 125 := by
  have : n ^ s ≤ n ^ most n := Nat.pow_le_pow_right (by rcases h with rfl | rfl | rfl | rfl <;> decide) hs
  refine Nat.le_trans this ?_
  rcases h with rfl | rfl | rfl | rfl <;> decide
theorem sh_arg {fd : List T} {n : Nat} (h : Prm n) (a b c d e f g : L) :
    dCons (den2 gIx (dLst (dCons (gC (.int 4)) (dCons (gC (.int 4)) (dCons (gC (.int 3)) (dCons (gC (.int 2)) dNil))))) (dVm vIndex (dLst (dCons (gC (.int 2)) (dCons (gC (.int 3)) (dCons (gC (.int 5)) (dCons (gC (.int 7)) dNil))))) (gVar 1))) dNil (S9 fd n a b c d e f g) = some ([.int (most n)], S9 fd n a b c d e f g) := by
  rcases h with rfl | rfl | rfl | rfl <;> rfl
theorem sh_s1 {fd : List T} {n : Nat} (h : Prm n) (hf : GF fd) : ∃ s fd', 0 < s ∧ s ≤ most n ∧ GF fd' ∧
    dSet 2 (den2 gAdd (gC (.int 1)) (dCallF 2 0 g__law_draw (dCons (den2 gIx (dLst (dCons (gC (.int 4)) (dCons (gC (.int 4)) (dCons (gC (.int 3)) (dCons (gC (.int 2)) dNil))))) (dVm vIndex (dLst (dCons (gC (.int 2)) (dCons (gC (.int 3)) (dCons (gC (.int 5)) (dCons (gC (.int 7)) dNil))))) (gVar 1))) dNil))) (S9 fd n .un .un .un .un .un .un .un) = some (.nx, S9 fd' n (.t (.int (s : Nat))) .un .un .un .un .un .un) := by
  obtain ⟨v, fd', e, h1, h2, h3⟩ := draw_call (i := 0) (ρ := S9 fd n .un .un .un .un .un .un .un) rfl (sh_arg h .un .un .un .un .un .un .un) rfl hf (by rcases h with rfl | rfl | rfl | rfl <;> decide) (by rcases h with rfl | rfl | rfl | rfl <;> decide)
  refine ⟨(1 + v).toNat, fd', by omega, by omega, h3, ?_⟩
  rw [show (((1 + v).toNat : Nat) : Int) = 1 + v by omega]
  exact dSet_t (den2_eq (l1 := .t (.int 1)) (ρ1 := S9 fd n .un .un .un .un .un .un .un) rfl e (gAdd_i _ _ _)) (show 2 < 9 from by decide)
end LK
namespace LK
open PySem LW
open L2 (atI ixN)

/-- draws in a comprehension over range(k), the loop's name in slot 4 -/
theorem sh_comp {ds : Den} {fd : List T} {n k : Nat} {a b d e f g : L} (h : Prm n) (hk : k < 100) (hf : GF fd) (hs : ds (S9 fd n a b .un d e f g) = some (.t (.int (k : Nat)), S9 fd n a b .un d e f g)) :
    ∃ ys fd', ys.length = k ∧ (∀ y ∈ ys, 0 ≤ y ∧ y < (n : Int)) ∧ GF fd' ∧
    compD (iRange1 (dCons ds dNil)) [4] (gNameT 4) dYes (dCallF 2 0 g__law_draw (dCons (gVar 1) dNil)) (S9 fd n a b .un d e f g) = some (.own (.lst (ii ys)), S9 fd' n a b .un d e f g) := by
  obtain ⟨ys, fd', h1, h2, h3, h4⟩ := compL_draw (vs := [4]) (g := gNameT 4) (de := dCallF 2 0 g__law_draw (dCons (gVar 1) dNil)) (m := n) (fun fd => S9 fd n a b .un d e f g) ((List.range k).map fun i => T.int (i : Nat)) (fun x hx fd hf => by
    obtain ⟨i, hi, rfl⟩ := List.mem_map.mp hx
    obtain ⟨v, fd', e1, e2, e3, e4⟩ := draw_call (i := 0) (da := dCons (gVar 1) dNil) (ρ := S9 fd n a b (.t (.int i)) d e f g) (m := n) rfl rfl rfl hf (by rcases h with rfl | rfl | rfl | rfl <;> decide) (by rcases h with rfl | rfl | rfl | rfl <;> decide)
    exact ⟨S9 fd n a b (.t (.int i)) d e f g, v, fd', _, rfl, e1, rfl, e2, e3, e4⟩) fd hf
  have hl : ys.length = k := by rw [h2]; simp
  refine ⟨ys, fd', hl, h3, h4, ?_⟩
  exact compD_eq (iRange1_eq hs (by omega)) h1 (by simp only [ii, List.length_map, line]; omega)
end LK
namespace LK
open PySem LW
open L2 (atI ixN)

/-- registers as they are drawn -/
structure Drawn (n : Nat) (taps st : List Int) : Prop where
  prm : Prm n
  len : taps.length = st.length
  pos : 0 < st.length
  few : st.length ≤ most n
  tin : InR n taps
  sin : InR n st
  last : 0 < taps.getD (taps.length - 1) 0
theorem Drawn.n8 {n : Nat} {taps st : List Int} (h : Drawn n taps st) : 0 < n ∧ n < 8 := by rcases h.prm with rfl | rfl | rfl | rfl <;> decide
theorem Drawn.l5 {n : Nat} {taps st : List Int} (h : Drawn n taps st) : st.length ≤ 4 := by
  have := h.few
  rcases h.prm with rfl | rfl | rfl | rfl <;> simp [most] at this <;> omega
theorem Drawn.sm {n : Nat} {taps st : List Int} (h : Drawn n taps st) : Sm taps := fun x hx => by
  have := h.tin x hx
  have := h.n8
  omega
/-- the round's end -/
theorem Drawn.round {n : Nat} {taps st : List Int} (h : Drawn n taps st) : ∃ P, 0 < P ∧ P ≤ 125 ∧ itS n taps P st = st ∧ ∀ i, 0 < i → i < P → itS n taps i st ≠ st := by
  have hl : taps.getD (taps.length - 1) 0 < n := by
    have hp := h.pos
    have hl := h.len
    have : taps.getD (taps.length - 1) 0 ∈ taps := by simp [List.getD_eq_getElem?_getD, show taps.length - 1 < taps.length by omega]
    exact (h.tin _ this).2
  obtain ⟨P, h1, h2, h3, h4⟩ := period h.prm h.len h.pos h.sin h.last hl
  exact ⟨P, h1, Nat.le_trans h2 (most_pow h.prm h.few), h3, h4⟩
/-- both find the same shift -/
theorem Drawn.same {n t : Nat} {taps st : List Int} (h : Drawn n taps st) (ht : t < 251) : ∃ x : T, (x = .non ∨ ∃ i, x = .int i) ∧
    f_shift_and_add [.int n, .lst (ii taps), .lst (ii st), .int t] = some (.t x) ∧ f__law_shift [.int n, .lst (ii taps), .lst (ii st), .int t] = some (.t x) := by
  obtain ⟨P, h1, h2, h3, h4⟩ := h.round
  have l5 := h.l5
  have e1 := ev_shift_and_add (t := t) h.n8.1 h.sm h.len h.pos (by omega) h1 (by omega) (by omega) h3 h4
  have e2 := ev_law_shift (t := t) h.n8.1 h.sm h.len h.pos (by omega) (by omega)
  have e3 := shift_same (t := t) h.n8.1 h.len h.pos (by omega) h1 (by omega) ht h3
  rw [e3] at e1
  refine ⟨_, ?_, e1, e2⟩
  generalize List.find? _ (List.range 250) = o
  cases o with
  | none => exact .inl rfl
  | some a => exact .inr ⟨_, rfl⟩
end LK
namespace LK
open PySem LW
open L2 (atI ixN)

/-- taps -/
theorem sh_s2 {fd : List T} {n s : Nat} (h : Prm n) (hs : 0 < s) (hs2 : s ≤ 4) (hf : GF fd) : ∃ taps fd', taps.length = s ∧ InR n taps ∧ 0 < taps.getD (taps.length - 1) 0 ∧ GF fd' ∧
    dSet 3 (den2 gAdd (compD (iRange1 (dCons (den2 gSub (gVar 2) (gC (.int 1))) dNil)) [4] (gNameT 4) dYes (dCallF 2 0 g__law_draw (dCons (gVar 1) dNil))) (dLst (dCons (den2 gAdd (gC (.int 1)) (dCallF 2 0 g__law_draw (dCons (den2 gSub (gVar 1) (gC (.int 1))) dNil))) dNil))) (S9 fd n (.t (.int (s : Nat))) .un .un .un .un .un .un)
      = some (.nx, S9 fd' n (.t (.int (s : Nat))) (.own (.lst (ii taps))) .un .un .un .un .un) := by
  obtain ⟨ys, fd1, h1, h2, h3, e1⟩ := sh_comp (ds := den2 gSub (gVar 2) (gC (.int 1))) (k := s - 1) (fd := fd) (a := .t (.int (s : Nat))) (b := .un) (d := .un) (e := .un) (f := .un) (g := .un) h (by omega) hf (by
    have := den2_eq (g := gSub) (d1 := gVar 2) (d2 := gC (.int 1)) (ρ := S9 fd n (.t (.int (s : Nat))) .un .un .un .un .un .un) (l1 := .t (.int (s : Nat))) (l2 := .t (.int 1)) (ρ1 := S9 fd n (.t (.int (s : Nat))) .un .un .un .un .un .un) (ρ2 := S9 fd n (.t (.int (s : Nat))) .un .un .un .un .un .un) (l := .t (.int ((s : Nat) - 1))) rfl rfl rfl
    rw [show ((s : Nat) : Int) - 1 = ((s - 1 : Nat) : Int) by omega] at this
    exact this)
  have hn : 2 ≤ n ∧ n < 8 := by rcases h with rfl | rfl | rfl | rfl <;> decide
  obtain ⟨v, fd2, e2, h4, h5, h6⟩ := draw_call (i := 0) (da := dCons (den2 gSub (gVar 1) (gC (.int 1))) dNil) (ρ := S9 fd1 n (.t (.int (s : Nat))) .un .un .un .un .un .un) (m := (n : Int) - 1) rfl rfl rfl h3 (by omega) (by omega)
  have e3 : dLst (dCons (den2 gAdd (gC (.int 1)) (dCallF 2 0 g__law_draw (dCons (den2 gSub (gVar 1) (gC (.int 1))) dNil))) dNil) (S9 fd1 n (.t (.int (s : Nat))) .un .un .un .un .un .un) = some (.own (.lst (ii [1 + v])), S9 fd2 n (.t (.int (s : Nat))) .un .un .un .un .un .un) := by
    have e4 := den2_eq (g := gAdd) (d1 := gC (.int 1)) (l1 := .t (.int 1)) (ρ1 := S9 fd1 n (.t (.int (s : Nat))) .un .un .un .un .un .un) rfl e2 (gAdd_i _ _ _)
    have e5 := dCons_eq (da := dNil) e4 rfl rfl
    simp only [dLst, e5, Option.bind_some, List.length_cons, List.length_nil, show 0 + 1 ≤ line from by decide, if_true]
    rfl
  refine ⟨ys ++ [1 + v], fd2, by simp [h1]; omega, fun x hx => ?_, ?_, h6, ?_⟩
  · rcases List.mem_append.mp hx with hx | hx
    · exact h2 x hx
    · have : x = 1 + v := by simpa using hx
      omega
  · rw [getD_app2 (by simp), show (ys ++ [1 + v]).length - 1 - ys.length = 0 by simp]
    show 0 < 1 + v
    omega
  · have e6 := den2_eq e1 e3 (gAdd_o _ (by simp only [ii, List.length_map, List.length_cons, List.length_nil, line]; omega))
    rw [ii_append] at e6
    exact dSet_o e6 (show 3 < 9 from by decide)
end LK
namespace LK
open PySem LW
open L2 (atI ixN)

/-- ticks -/
theorem sh_s4 {fd : List T} {n : Nat} {a b d : L} (h : Prm n) (hf : GF fd) : ∃ (t : Nat) (fd' : List T), t < 252 ∧ GF fd' ∧
    dSet 6 (dCallF 2 0 g__law_draw (dCons (den2 gAdd (gC (.int 1)) (den2 gIx (dLst (dCons (gC (.int 12)) (dCons (gC (.int 251)) dNil))) (den1 gInt (den2 (gB gEq) (dCallF 2 0 g__law_draw (dCons (gC (.int 4)) dNil)) (gC (.int 1)))))) dNil)) (S9 fd n a b .un d .un .un .un)
      = some (.nx, S9 fd' n a b .un d (.t (.int (t : Nat))) .un .un) := by
  obtain ⟨v, fd1, e1, h1, h2, h3⟩ := draw_call (i := 0) (da := dCons (gC (.int 4)) dNil) (ρ := S9 fd n a b .un d .un .un .un) (m := 4) rfl rfl rfl hf (by decide) (by decide)
  have e2 : den1 gInt (den2 (gB gEq) (dCallF 2 0 g__law_draw (dCons (gC (.int 4)) dNil)) (gC (.int 1))) (S9 fd n a b .un d .un .un .un) = some (.t (.int (if decide (v = 1) then 1 else 0)), S9 fd1 n a b .un d .un .un .un) := by
    refine den1_eq (den2_eq e1 (l2 := .t (.int 1)) (ρ2 := S9 fd1 n a b .un d .un .un .un) rfl (gEq_i _ v 1)) ?_
    rfl
  have e3 : ∃ m : Int, 0 < m ∧ m ≤ 252 ∧ dCons (den2 gAdd (gC (.int 1)) (den2 gIx (dLst (dCons (gC (.int 12)) (dCons (gC (.int 251)) dNil))) (den1 gInt (den2 (gB gEq) (dCallF 2 0 g__law_draw (dCons (gC (.int 4)) dNil)) (gC (.int 1)))))) dNil (S9 fd n a b .un d .un .un .un) = some ([.int m], S9 fd1 n a b .un d .un .un .un) := by
    by_cases hv : v = 1
    · rw [decide_eq_true hv, if_pos rfl] at e2
      exact ⟨252, by decide, by decide, dCons_eq (den2_eq (l1 := .t (.int 1)) (ρ1 := S9 fd n a b .un d .un .un .un) rfl (den2_eq (l1 := .own (.lst [.int 12, .int 251])) (ρ1 := S9 fd n a b .un d .un .un .un) rfl e2 (l := .t (.int 251)) rfl) rfl) rfl rfl⟩
    · rw [decide_eq_false hv, if_neg (by decide)] at e2
      exact ⟨13, by decide, by decide, dCons_eq (den2_eq (l1 := .t (.int 1)) (ρ1 := S9 fd n a b .un d .un .un .un) rfl (den2_eq (l1 := .own (.lst [.int 12, .int 251])) (ρ1 := S9 fd n a b .un d .un .un .un) rfl e2 (l := .t (.int 12)) rfl) rfl) rfl rfl⟩
  obtain ⟨m, hm, hm2, e3⟩ := e3
  obtain ⟨w, fd2, e4, h4, h5, h6⟩ := draw_call (i := 0) (ρ := S9 fd n a b .un d .un .un .un) rfl e3 rfl h3 hm (by omega)
  refine ⟨w.toNat, fd2, by omega, h6, ?_⟩
  rw [show ((w.toNat : Nat) : Int) = w by omega]
  exact dSet_t e4 (show 6 < 9 from by decide)
end LK
namespace LK
open PySem LW
open L2 (atI ixN)

/-- the slots with what is drawn, as trees -/
def S9t (fd : List T) (n s t : Nat) (taps st : List Int) (k g : L) : REnv := [.t (.lst fd), .t (.int n), .t (.int (s : Nat)), .t (.lst (ii taps)), .un, .t (.lst (ii st)), .t (.int (t : Nat)), k, g]
def S9o (fd : List T) (n s t : Nat) (taps st : List Int) (k g : L) : REnv := S9 fd n (.t (.int (s : Nat))) (.own (.lst (ii taps))) .un (.own (.lst (ii st))) (.t (.int (t : Nat))) k g
theorem frz9 (fd : List T) (n s t : Nat) (taps st : List Int) (k : List T) : frzE (S9o fd n s t taps st (.own (.lst k)) .un) = S9t fd n s t taps st (.t (.lst k)) .un := rfl
theorem frz9i (fd : List T) (n s t : Nat) (taps st : List Int) (k : List T) (i : Int) : frzE (S9o fd n s t taps st (.own (.lst k)) (.t (.int i))) = S9t fd n s t taps st (.t (.lst k)) (.t (.int i)) := rfl
theorem sh_s7 {fd k : List T} {n s t : Nat} {taps st : List Int} (h : Drawn n taps st) (ht : t < 251) :
    dNot (dTru (dCallP 2 (f__law_alike 5) (dCons (dBor (dCallP 4 f_shift_and_add (dCons (gVar 1) (dCons (gVar 3) (dCons (gVar 5) (dCons (gVar 6) dNil)))))) (dCons (dBor (dCallP 4 f__law_shift (dCons (gVar 1) (dCons (gVar 3) (dCons (gVar 5) (dCons (gVar 6) dNil)))))) dNil)))) (S9o fd n s t taps st (.own (.lst k)) .un) = some (false, S9o fd n s t taps st (.own (.lst k)) .un) := by
  obtain ⟨x, hx, e1, e2⟩ := h.same ht
  have nl : (L.t x).noL = true := by rcases hx with rfl | ⟨i, rfl⟩ <;> rfl
  have nr : nor (.t x) = some (.t x) := rfl
  let F := S9t fd n s t taps st (.t (.lst k)) .un
  have b1 := dBor_eq (d := dCallP 4 f_shift_and_add (dCons (gVar 1) (dCons (gVar 3) (dCons (gVar 5) (dCons (gVar 6) dNil))))) (ρ := S9o fd n s t taps st (.own (.lst k)) .un) (ρ' := F) (l := .t x) (by rw [frz9]; exact dCallP_eq (ts := [.int n, .lst (ii taps), .lst (ii st), .int t]) (ρ1 := F) rfl rfl e1 nr) nl
  have b2 := dBor_eq (d := dCallP 4 f__law_shift (dCons (gVar 1) (dCons (gVar 3) (dCons (gVar 5) (dCons (gVar 6) dNil))))) (ρ := S9o fd n s t taps st (.own (.lst k)) .un) (ρ' := F) (l := .t x) (by rw [frz9]; exact dCallP_eq (ts := [.int n, .lst (ii taps), .lst (ii st), .int t]) (ρ1 := F) rfl rfl e2 nr) nl
  have al : f__law_alike 5 [x, x] = some (.t (.bl true)) := by
    rcases hx with rfl | ⟨i, rfl⟩
    · exact alike_non
    · exact alike_int i
  have c := dCallP_eq (n := 2) (f := f__law_alike 5) (dCons_eq b1 rfl (dCons_eq b2 rfl (da := dNil) (ts := []) rfl)) rfl al rfl
  simp only [dNot, dTru, c, Option.bind_some, L.truth, Option.map_some, Bool.not_true]
end LK
namespace LK
open PySem LW
open L2 (atI ixN)

/-- the last return -/
theorem sh_s9 {fd : List T} {n s t m : Nat} {taps st : List Int} (h : Drawn n taps st) (hm : st.length ≤ m) (hm2 : m < 200) :
    ∃ ρ', dRet (dAndV (dBor (den2 (gB gEq) (gVar 7) (dLst (dCons (gVar 3) (dCons (gVar 5) dNil))))) (dCallP 2 (f__law_alike 5) (dCons (dBor (dCallP 4 f_register_row (dCons (gVar 1) (dCons (gVar 3) (dCons (gVar 5) (dCons (gVar 8) dNil)))))) (dCons (dBor (dCallP 4 f__law_register (dCons (gVar 1) (dCons (gVar 3) (dCons (gVar 5) (dCons (gVar 8) dNil)))))) dNil)))) (S9o fd n s t taps st (.own (.lst [.lst (ii taps), .lst (ii st)])) (.t (.int (m : Nat)))) = some (.ret (.t (.bl true)), ρ') ∧ ρ' = S9o fd n s t taps st (.own (.lst [.lst (ii taps), .lst (ii st)])) (.t (.int (m : Nat))) := by
  have l5 := h.l5
  have hn1 : (0 : Int) < n := by have := h.n8; omega
  have hl := h.len
  let G := S9o fd n s t taps st (.own (.lst [.lst (ii taps), .lst (ii st)])) (.t (.int (m : Nat)))
  let F := S9t fd n s t taps st (.t (.lst [.lst (ii taps), .lst (ii st)])) (.t (.int (m : Nat)))
  have fz : frzE G = F := rfl
  have k0 : dBor (den2 (gB gEq) (gVar 7) (dLst (dCons (gVar 3) (dCons (gVar 5) dNil)))) G = some (.t (.bl true), G) := dBor_eq (ρ' := F) (by
    rw [fz]
    have d : dLst (dCons (gVar 3) (dCons (gVar 5) dNil)) F = some (.own (.lst [.lst (ii taps), .lst (ii st)]), F) := rfl
    exact den2_eq (l1 := .t (.lst [.lst (ii taps), .lst (ii st)])) (ρ1 := F) rfl d (by simp only [gB, gEq, L.view, eqOk_two, eqv_two, if_true, Option.map_some])) rfl
  have r1 := ev_register_row (p := n) (taps := taps) (begun := st) (m := m) hn1 h.sm (by omega) (by omega) (by omega)
  have r2 := ev_law_register (p := n) (taps := taps) (begun := st) (m := m) hn1 h.sm (by omega) (by omega) (by omega) hm
  have gl := grow_len (n : Int) taps st (m - st.length)
  rw [List.take_of_length_le (by omega)] at r1
  have b1 := dBor_eq (d := dCallP 4 f_register_row (dCons (gVar 1) (dCons (gVar 3) (dCons (gVar 5) (dCons (gVar 8) dNil))))) (ρ := G) (ρ' := F) (l := .own (.lst (ii (grow n taps st (m - st.length))))) (by rw [fz]; exact dCallP_eq (ts := [.int n, .lst (ii taps), .lst (ii st), .int m]) (ρ1 := F) rfl rfl r1 rfl) (noL_own _)
  have b2 := dBor_eq (d := dCallP 4 f__law_register (dCons (gVar 1) (dCons (gVar 3) (dCons (gVar 5) (dCons (gVar 8) dNil))))) (ρ := G) (ρ' := F) (l := .own (.lst (ii (grow n taps st (m - st.length))))) (by rw [fz]; exact dCallP_eq (ts := [.int n, .lst (ii taps), .lst (ii st), .int m]) (ρ1 := F) rfl rfl r2 rfl) (noL_own _)
  have c := dCallP_eq (n := 2) (f := f__law_alike 5) (dCons_eq b1 rfl (dCons_eq b2 rfl (da := dNil) (ts := []) rfl)) rfl (alike_ii (ns := grow n taps st (m - st.length)) (by omega)) rfl
  refine ⟨G, dRet_eq ?_, rfl⟩
  show dAndV _ _ G = _
  rw [dAndV, k0]
  exact c
end LK
namespace LK
open PySem LW
open L2 (atI ixN)

theorem ev_shifted {fd : List T} {n : Nat} (h : Prm n) (hf : GF fd) : ∃ fd', g__law_shifted fd [.int n] = some (.t (.bl true), fd') := by
  obtain ⟨s, fd1, hs0, hsm, hf1, s1⟩ := sh_s1 h hf
  have hs4 : s ≤ 4 := by rcases h with rfl | rfl | rfl | rfl <;> simp [most] at hsm <;> omega
  obtain ⟨taps, fd2, ht1, ht2, ht3, hf2, s2⟩ := sh_s2 h hs0 hs4 hf1
  obtain ⟨st, fd3, hb1, hb2, hf3, c3⟩ := sh_comp (ds := gVar 2) (k := s) (fd := fd2) (a := .t (.int (s : Nat))) (b := .own (.lst (ii taps))) (d := .un) (e := .un) (f := .un) (g := .un) h (by omega) hf2 rfl
  have s3 : dSet 5 _ (S9 fd2 n (.t (.int (s : Nat))) (.own (.lst (ii taps))) .un .un .un .un .un) = some (.nx, S9 fd3 n (.t (.int (s : Nat))) (.own (.lst (ii taps))) .un (.own (.lst (ii st))) .un .un .un) := dSet_o c3 (show 5 < 9 from by decide)
  obtain ⟨t0, fd4, ht0, hf4, s4⟩ := sh_s4 (a := .t (.int (s : Nat))) (b := .own (.lst (ii taps))) (d := .own (.lst (ii st))) h hf3
  have dr : Drawn n taps st := ⟨h, by omega, by omega, by omega, ht2, hb2, ht3⟩
  obtain ⟨t, htt, s5⟩ : ∃ t : Nat, t < 251 ∧ dIfS (dBl (den2 (gB gEq) (gVar 6) (gC (.int 251)))) (dSet 6 (gC (.int 250))) dNx (S9o fd4 n s t0 taps st .un .un) = some (.nx, S9o fd4 n s t taps st .un .un) := by
    have k := dBl_eq (den2_eq (g := gB gEq) (d1 := gVar 6) (d2 := gC (.int 251)) (ρ := S9o fd4 n s t0 taps st .un .un) (l1 := .t (.int (t0 : Nat))) (l2 := .t (.int 251)) (ρ1 := S9o fd4 n s t0 taps st .un .un) (ρ2 := S9o fd4 n s t0 taps st .un .un) rfl rfl (gEq_i _ _ _))
    by_cases e : ((t0 : Nat) : Int) = 251
    · rw [decide_eq_true e] at k
      exact ⟨250, by decide, by rw [dIfS_t k]; rfl⟩
    · rw [decide_eq_false e] at k
      exact ⟨t0, by omega, by rw [dIfS_f k]; rfl⟩
  have s6 : dSet 7 (dLst (dCons (den1 gList (gVar 3)) (dCons (den1 gList (gVar 5)) dNil))) (S9o fd4 n s t taps st .un .un) = some (.nx, S9o fd4 n s t taps st (.own (.lst [.lst (ii taps), .lst (ii st)])) .un) := rfl
  have s7 := sh_s7 (fd := fd4) (s := s) (k := [.lst (ii taps), .lst (ii st)]) dr htt
  obtain ⟨v, fd5, e8, hv0, hv1, hf5⟩ := draw_call (i := 0) (da := dCons (gC (.int 60)) dNil) (ρ := S9o fd4 n s t taps st (.own (.lst [.lst (ii taps), .lst (ii st)])) .un) (m := 60) rfl rfl rfl hf4 (by decide) (by decide)
  have s8 : dSet 8 (den2 gAdd (gVar 2) (dCallF 2 0 g__law_draw (dCons (gC (.int 60)) dNil))) (S9o fd4 n s t taps st (.own (.lst [.lst (ii taps), .lst (ii st)])) .un) = some (.nx, S9o fd5 n s t taps st (.own (.lst [.lst (ii taps), .lst (ii st)])) (.t (.int ((s + v.toNat : Nat) : Int)))) := by
    rw [show ((s + v.toNat : Nat) : Int) = (s : Int) + v by omega]
    exact dSet_t (den2_eq (l1 := .t (.int (s : Nat))) (ρ1 := S9o fd4 n s t taps st (.own (.lst [.lst (ii taps), .lst (ii st)])) .un) rfl e8 (gAdd_i _ _ _)) (show 8 < 9 from by decide)
  obtain ⟨ρ', s9, rfl⟩ := sh_s9 (fd := fd5) (s := s) (t := t) (m := s + v.toNat) dr (by omega) (by omega)
  refine ⟨fd5, bodyF_t (ρ' := S9o fd5 n s t taps st (.own (.lst [.lst (ii taps), .lst (ii st)])) (.t (.int ((s + v.toNat : Nat) : Int)))) rfl ?_ rfl⟩
  show d__law_shifted (S9 fd n .un .un .un .un .un .un .un) = _
  rw [d__law_shifted, dSeq_nx s1, dSeq_nx s2, dSeq_nx s3, dSeq_nx s4]
  show dSeq _ _ (S9o fd4 n s t0 taps st .un .un) = _
  rw [dSeq_nx s5, dSeq_nx s6, dSeq_nx (by rw [dIfS_f s7]; rfl), dSeq_nx s8]
  exact s9
end LK
namespace LK
open PySem LW
open L2 (atI ixN)

/-- the slots of law -/
def W (ns : List Int) (fd : List T) (a2 a3 a4 a5 a6 a7 a8 a9 a10 a11 a12 : L) : REnv := [.t (.lkl (ii ns)), .own (.lst fd), a2, a3, a4, a5, a6, a7, a8, a9, a10, a11, a12]
theorem lw_s1 (ns : List Int) : dSet 1 (dCallP 1 f__law_feed (dCons (gVar 0) dNil)) [.t (.lkl (ii ns)), .un, .un, .un, .un, .un, .un, .un, .un, .un, .un, .un, .un] = some (.nx, W ns (FD ns 0 0 1) .un .un .un .un .un .un .un .un .un .un .un) := by
  have e : f__law_feed [.lkl (ii ns)] = some (.own (.lst (FD ns 0 0 1))) := rfl
  exact dSet_o (dCallP_eq (n := 1) (ts := [.lkl (ii ns)]) (ρ1 := [.t (.lkl (ii ns)), .un, .un, .un, .un, .un, .un, .un, .un, .un, .un, .un, .un]) rfl rfl e rfl) (show 1 < 13 from by decide)
theorem gf0 (ns : List Int) : GF (FD ns 0 0 1) := ⟨ns, 0, 0, 1, rfl, by decide, by decide, by decide, by decide⟩
theorem lw_s2 {ns : List Int} {fd : List T} (hf : GF fd) : ∃ n fd', Prm n ∧ GF fd' ∧ dSet 2 (den2 gIx (dLst (dCons (gC (.int 2)) (dCons (gC (.int 3)) (dCons (gC (.int 5)) (dCons (gC (.int 7)) dNil))))) (dCallF 2 1 g__law_draw (dCons (gC (.int 4)) dNil))) (W ns fd .un .un .un .un .un .un .un .un .un .un .un) = some (.nx, W ns fd' (.t (.int (n : Nat))) .un .un .un .un .un .un .un .un .un .un) := by
  obtain ⟨v, fd', e, h1, h2, h3⟩ := draw_call (i := 1) (da := dCons (gC (.int 4)) dNil) (ρ := W ns fd .un .un .un .un .un .un .un .un .un .un .un) (m := 4) rfl rfl rfl hf (by decide) (by decide)
  have key : ∀ (n : Nat), atI [T.int 2, T.int 3, T.int 5, T.int 7] v = some (.int (n : Nat)) → dSet 2 (den2 gIx (dLst (dCons (gC (.int 2)) (dCons (gC (.int 3)) (dCons (gC (.int 5)) (dCons (gC (.int 7)) dNil))))) (dCallF 2 1 g__law_draw (dCons (gC (.int 4)) dNil))) (W ns fd .un .un .un .un .un .un .un .un .un .un .un) = some (.nx, W ns fd' (.t (.int (n : Nat))) .un .un .un .un .un .un .un .un .un .un) := fun n hn =>
    dSet_t (den2_eq (l1 := .own (.lst [.int 2, .int 3, .int 5, .int 7])) (ρ1 := W ns fd .un .un .un .un .un .un .un .un .un .un .un) rfl e (by simp only [gIx, L.lview, hn, Option.bind_some, Option.map_some])) (show 2 < 13 from by decide)
  have : v = 0 ∨ v = 1 ∨ v = 2 ∨ v = 3 := by omega
  rcases this with rfl | rfl | rfl | rfl
  · exact ⟨2, fd', .inl rfl, h3, key 2 rfl⟩
  · exact ⟨3, fd', .inr (.inl rfl), h3, key 3 rfl⟩
  · exact ⟨5, fd', .inr (.inr (.inl rfl)), h3, key 5 rfl⟩
  · exact ⟨7, fd', .inr (.inr (.inr rfl)), h3, key 7 rfl⟩
/-- one draw looked at: is it 1 -/
theorem lw_if {ns : List Int} {fd : List T} {a2 a3 a4 a5 a6 a7 a8 a9 a10 a11 a12 : L} (k : Int) (hk : 0 < k) (hk2 : k < 1000) (hf : GF fd) :
    ∃ (b : Bool) (fd' : List T), GF fd' ∧ dBl (den2 (gB gEq) (dCallF 2 1 g__law_draw (dCons (gC (.int k)) dNil)) (gC (.int 1))) (W ns fd a2 a3 a4 a5 a6 a7 a8 a9 a10 a11 a12) = some (b, W ns fd' a2 a3 a4 a5 a6 a7 a8 a9 a10 a11 a12) := by
  obtain ⟨v, fd', e, h1, h2, h3⟩ := draw_call (i := 1) (da := dCons (gC (.int k)) dNil) (ρ := W ns fd a2 a3 a4 a5 a6 a7 a8 a9 a10 a11 a12) (m := k) rfl rfl rfl hf hk (by omega)
  exact ⟨decide (v = 1), fd', h3, dBl_eq (den2_eq e (l2 := .t (.int 1)) (ρ2 := W ns fd' a2 a3 a4 a5 a6 a7 a8 a9 a10 a11 a12) rfl (gEq_i _ v 1))⟩
/-- a number and a draw -/
theorem lw_add {ns : List Int} {fd : List T} {a2 a3 a4 a5 a6 a7 a8 a9 a10 a11 a12 : L} (c k : Nat) (hk : 0 < k) (hk2 : k < 1000) (hf : GF fd) :
    ∃ (m : Nat) (fd' : List T), GF fd' ∧ c ≤ m ∧ m < c + k ∧ den2 gAdd (gC (.int (c : Nat))) (dCallF 2 1 g__law_draw (dCons (gC (.int (k : Nat))) dNil)) (W ns fd a2 a3 a4 a5 a6 a7 a8 a9 a10 a11 a12) = some (.t (.int (m : Nat)), W ns fd' a2 a3 a4 a5 a6 a7 a8 a9 a10 a11 a12) := by
  obtain ⟨v, fd', e, h1, h2, h3⟩ := draw_call (i := 1) (da := dCons (gC (.int (k : Nat))) dNil) (ρ := W ns fd a2 a3 a4 a5 a6 a7 a8 a9 a10 a11 a12) (m := k) rfl rfl rfl hf (by omega) (by omega)
  refine ⟨c + v.toNat, fd', h3, by omega, by omega, ?_⟩
  rw [show ((c + v.toNat : Nat) : Int) = (c : Int) + v by omega]
  exact den2_eq (l1 := .t (.int (c : Nat))) (ρ1 := W ns fd a2 a3 a4 a5 a6 a7 a8 a9 a10 a11 a12) rfl e (gAdd_i _ _ _)
/-- how many -/
theorem lw_s4 {ns : List Int} {fd : List T} {a2 : L} (hf : GF fd) : ∃ (m : Nat) (fd' : List T), 1 ≤ m ∧ m ≤ 250 ∧ GF fd' ∧ ∀ rest : DenS,
    dSeq (dSet 3 (den2 gAdd (gC (.int 1)) (dCallF 2 1 g__law_draw (dCons (gC (.int 40)) dNil)))) (dSeq (dIfS (dBl (den2 (gB gEq) (dCallF 2 1 g__law_draw (dCons (gC (.int 8)) dNil)) (gC (.int 1)))) (dSet 3 (den2 gAdd (gC (.int 41)) (dCallF 2 1 g__law_draw (dCons (gC (.int 210)) dNil)))) dNx) rest) (W ns fd a2 .un .un .un .un .un .un .un .un .un .un)
      = rest (W ns fd' a2 (.t (.int (m : Nat))) .un .un .un .un .un .un .un .un .un) := by
  obtain ⟨m, fd1, h1, h2, h3, e1⟩ := lw_add (ns := ns) (a2 := a2) (a3 := .un) (a4 := .un) (a5 := .un) (a6 := .un) (a7 := .un) (a8 := .un) (a9 := .un) (a10 := .un) (a11 := .un) (a12 := .un) 1 40 (by decide) (by decide) hf
  have s1 := dSet_t (i := 3) e1 (show 3 < 13 from by decide)
  obtain ⟨b, fd2, h4, e2⟩ := lw_if (ns := ns) (a2 := a2) (a3 := .t (.int (m : Nat))) (a4 := .un) (a5 := .un) (a6 := .un) (a7 := .un) (a8 := .un) (a9 := .un) (a10 := .un) (a11 := .un) (a12 := .un) 8 (by decide) (by decide) h1
  cases b with
  | true =>
    obtain ⟨m2, fd3, h5, h6, h7, e3⟩ := lw_add (ns := ns) (a2 := a2) (a3 := .t (.int (m : Nat))) (a4 := .un) (a5 := .un) (a6 := .un) (a7 := .un) (a8 := .un) (a9 := .un) (a10 := .un) (a11 := .un) (a12 := .un) 41 210 (by decide) (by decide) h4
    have s3 := dSet_t (i := 3) e3 (show 3 < 13 from by decide)
    refine ⟨m2, fd3, by omega, by omega, h5, fun rest => ?_⟩
    rw [show dSeq (dSet 3 (den2 gAdd (gC (.int 1)) (dCallF 2 1 g__law_draw (dCons (gC (.int 40)) dNil)))) _ _ = _ from dSeq_nx s1]
    exact dSeq_nx (by rw [show ((W ns fd1 a2 .un .un .un .un .un .un .un .un .un .un).set 3 (.t (.int (m : Nat)))) = W ns fd1 a2 (.t (.int (m : Nat))) .un .un .un .un .un .un .un .un .un from rfl, dIfS_t e2]; exact s3)
  | false =>
    refine ⟨m, fd2, by omega, by omega, h4, fun rest => ?_⟩
    rw [show dSeq (dSet 3 (den2 gAdd (gC (.int 1)) (dCallF 2 1 g__law_draw (dCons (gC (.int 40)) dNil)))) _ _ = _ from dSeq_nx s1]
    exact dSeq_nx (by rw [show ((W ns fd1 a2 .un .un .un .un .un .un .un .un .un .un).set 3 (.t (.int (m : Nat)))) = W ns fd1 a2 (.t (.int (m : Nat))) .un .un .un .un .un .un .un .un .un from rfl, dIfS_f e2]; rfl)
end LK
namespace LK
open PySem LW
open L2 (atI ixN)

/-- the slots of law when the rows are drawn -/
def Wo (ns : List Int) (fd : List T) (p m : Nat) (row : List Int) (a6 a7 a8 a9 a10 a11 a12 : L) : REnv := W ns fd (.t (.int p)) (.t (.int m)) (.own (.lst (ii row))) .un a6 a7 a8 a9 a10 a11 a12
theorem prm_lt {n : Nat} (h : Prm n) : 0 < n ∧ n < 8 := by rcases h with rfl | rfl | rfl | rfl <;> decide
theorem lw_comp {ns : List Int} {fd : List T} {p m : Nat} {a4 a6 a7 a8 a9 a10 a11 a12 : L} (h : Prm p) (hm : m < 300) (hf : GF fd) :
    ∃ ys fd', ys.length = m ∧ (∀ y ∈ ys, 0 ≤ y ∧ y < (p : Int)) ∧ GF fd' ∧
    compD (iRange1 (dCons (gVar 3) dNil)) [5] (gNameT 5) dYes (dCallF 2 1 g__law_draw (dCons (gVar 2) dNil)) (W ns fd (.t (.int p)) (.t (.int m)) a4 .un a6 a7 a8 a9 a10 a11 a12) = some (.own (.lst (ii ys)), W ns fd' (.t (.int p)) (.t (.int m)) a4 .un a6 a7 a8 a9 a10 a11 a12) := by
  have hp := prm_lt h
  obtain ⟨ys, fd', h1, h2, h3, h4⟩ := compL_draw (vs := [5]) (g := gNameT 5) (de := dCallF 2 1 g__law_draw (dCons (gVar 2) dNil)) (m := p) (fun fd => W ns fd (.t (.int p)) (.t (.int m)) a4 .un a6 a7 a8 a9 a10 a11 a12) ((List.range m).map fun i => T.int (i : Nat)) (fun x hx fd hf => by
    obtain ⟨i, hi, rfl⟩ := List.mem_map.mp hx
    obtain ⟨v, fd', e1, e2, e3, e4⟩ := draw_call (i := 1) (da := dCons (gVar 2) dNil) (ρ := W ns fd (.t (.int p)) (.t (.int m)) a4 (.t (.int i)) a6 a7 a8 a9 a10 a11 a12) (m := p) rfl rfl rfl hf (by omega) (by omega)
    exact ⟨W ns fd (.t (.int p)) (.t (.int m)) a4 (.t (.int i)) a6 a7 a8 a9 a10 a11 a12, v, fd', _, rfl, e1, rfl, e2, e3, e4⟩) fd hf
  have hl : ys.length = m := by rw [h2]; simp
  refine ⟨ys, fd', hl, h3, h4, ?_⟩
  exact compD_eq (iRange1_eq (n := m) (ρ' := W ns fd (.t (.int p)) (.t (.int m)) a4 .un a6 a7 a8 a9 a10 a11 a12) rfl (by omega)) h1 (by simp only [ii, List.length_map, line]; omega)
theorem dLst_eq {da : DenA} {ρ ρ1 : REnv} {ts : List T} (h : da ρ = some (ts, ρ1)) (hz : ts.length ≤ line) : dLst da ρ = some (.own (.lst ts), ρ1) := by simp only [dLst, h, Option.bind_some, hz, if_true]
theorem gMul_one (ρ : REnv) (x : T) {k : Int} (h0 : 0 ≤ k) (h1 : k < 1000) : gMul ρ (.own (.lst [x])) (.t (.int k)) = some (.own (.lst (List.replicate k.toNat x))) := by
  have c : (decide (-(9223372036854775808) ≤ k) && decide (k < 9223372036854775808) && decide ([x].length * k.toNat ≤ line)) = true := by
    simp only [Bool.and_eq_true, decide_eq_true_eq]
    exact ⟨⟨by omega, by omega⟩, by show 1 * k.toNat ≤ 16777216; omega⟩
  have e : (List.replicate k.toNat [x]).flatten = List.replicate k.toNat x := List.flatten_replicate_singleton
  unfold gMul
  simp only [L.lview, c, if_true, e]
theorem rep_ii (m : Nat) (x : Int) : List.replicate m (T.int x) = ii (List.replicate m x) := by simp [ii]
/-- the row: drawn, or one number over and over -/
theorem lw_s6 {ns : List Int} {fd : List T} {p m : Nat} {row : List Int} (h : Prm p) (hm0 : 0 < m) (hm : m < 300) (hl : row.length = m) (hf : GF fd) (hr : ∀ y ∈ row, 0 ≤ y ∧ y < (p : Int)) :
    ∃ row' fd', row'.length = m ∧ GF fd' ∧ dIfS (dBl (den2 (gB gEq) (dCallF 2 1 g__law_draw (dCons (gC (.int 6)) dNil)) (gC (.int 1)))) (dSet 4 (den2 gMul (dLst (dCons (den2 gIx (gVar 4) (gC (.int 0))) dNil)) (gVar 3))) dNx (Wo ns fd p m row .un .un .un .un .un .un .un)
      = some (.nx, Wo ns fd' p m row' .un .un .un .un .un .un .un) := by
  obtain ⟨b, fd2, h4, e2⟩ := lw_if (ns := ns) (a2 := .t (.int p)) (a3 := .t (.int m)) (a4 := .own (.lst (ii row))) (a5 := .un) (a6 := .un) (a7 := .un) (a8 := .un) (a9 := .un) (a10 := .un) (a11 := .un) (a12 := .un) 6 (by decide) (by decide) hf
  cases b with
  | false => exact ⟨row, fd2, hl, h4, by rw [Wo, dIfS_f e2]; rfl⟩
  | true =>
    have e := atI_ints (ns := row) (i := 0) (by decide) (by omega)
    have e3 : den2 gIx (gVar 4) (gC (.int 0)) (Wo ns fd2 p m row .un .un .un .un .un .un .un) = some (.t (.int (row.getD 0 0)), Wo ns fd2 p m row .un .un .un .un .un .un .un) :=
      den2_eq (l1 := .ref 4) (ρ1 := Wo ns fd2 p m row .un .un .un .un .un .un .un) rfl rfl (gIx_o _ (xs := ii row) rfl e)
    have e4 : dLst (dCons (den2 gIx (gVar 4) (gC (.int 0))) dNil) (Wo ns fd2 p m row .un .un .un .un .un .un .un) = some (.own (.lst [.int (row.getD 0 0)]), Wo ns fd2 p m row .un .un .un .un .un .un .un) := by
      exact dLst_eq (dCons_eq e3 rfl (da := dNil) (ts := []) rfl) (show 1 ≤ 16777216 from by decide)
    have e5 := den2_eq e4 (d2 := gVar 3) (l2 := .t (.int (m : Nat))) (ρ2 := Wo ns fd2 p m row .un .un .un .un .un .un .un) rfl (gMul_one _ _ (by omega) (by omega))
    rw [Int.toNat_natCast, rep_ii] at e5
    refine ⟨List.replicate m (row.getD 0 0), fd2, by simp, h4, ?_⟩
    rw [Wo, dIfS_t e2]
    exact dSet_o e5 (show 4 < 13 from by decide)
end LK
namespace LK
open PySem LW
open L2 (atI ixN)

/-- row[turn:] + row[:turn] from a slot of its own -/
theorem turn_den {ρ : REnv} {i : Nat} {a : List Int} {t : Nat} (hi : gVar i ρ = some (.ref i, ρ)) (ho : ρ[i]? = some (.own (.lst (ii a)))) (ht : gVar 6 ρ = some (.t (.int (t : Nat)), ρ)) (hz : a.length < 1000) :
    den2 gAdd (dSl (gVar i) (dSome (gVar 6)) dNone) (dSl (gVar i) dNone (dSome (gVar 6))) ρ = some (.own (.lst (ii (a.drop t ++ a.take t))), ρ) := by
  have e1 := dSl_eq (d := gVar i) (dl := dSome (gVar 6)) (dh := dNone) hi (dSome_eq ht) rfl (gSl_o _ ho)
  have e2 := dSl_eq (d := gVar i) (dl := dNone) (dh := dSome (gVar 6)) hi rfl (dSome_eq ht) (gSl_o _ ho)
  rw [cut_lo] at e1
  rw [cut_hi] at e2
  have el : (ii a).length = a.length := by simp [ii]
  have := den2_eq e1 e2 (gAdd_o _ (by simp only [List.length_drop, List.length_take, el, line]; omega))
  rw [this]
  simp [ii, List.map_append, List.map_drop, List.map_take]
/-- .. from a tree -/
theorem turn_denT {ρ : REnv} {i : Nat} {a : List Int} {t : Nat} (hi : gVar i ρ = some (.t (.lst (ii a)), ρ)) (ht : gVar 6 ρ = some (.t (.int (t : Nat)), ρ)) (hz : a.length < 1000) :
    den2 gAdd (dSl (gVar i) (dSome (gVar 6)) dNone) (dSl (gVar i) dNone (dSome (gVar 6))) ρ = some (.own (.lst (ii (a.drop t ++ a.take t))), ρ) := by
  have e1 := dSl_eq (d := gVar i) (dl := dSome (gVar 6)) (dh := dNone) hi (dSome_eq ht) rfl (gSl_l _)
  have e2 := dSl_eq (d := gVar i) (dl := dNone) (dh := dSome (gVar 6)) hi rfl (dSome_eq ht) (gSl_l _)
  rw [cut_lo] at e1
  rw [cut_hi] at e2
  have el : (ii a).length = a.length := by simp [ii]
  have := den2_eq e1 e2 (gAdd_o _ (by simp only [List.length_drop, List.length_take, el, line]; omega))
  rw [this]
  simp [ii, List.map_append, List.map_drop, List.map_take]
/-- the second row -/
theorem lw_s9 {ns : List Int} {fd : List T} {p m t : Nat} {row other : List Int} (h : Prm p) (hm0 : 0 < m) (hm : m < 300) (hl : other.length = m) (hf : GF fd) :
    ∃ other' fd', other'.length = m ∧ GF fd' ∧ dIfS (dBl (den2 (gB gEq) (dCallF 2 1 g__law_draw (dCons (gC (.int 2)) dNil)) (gC (.int 1)))) (dSet 7 (compD (iRange1 (dCons (gVar 3) dNil)) [5] (gNameT 5) dYes (dCallF 2 1 g__law_draw (dCons (gVar 2) dNil)))) dNx (Wo ns fd p m row (.t (.int (t : Nat))) (.own (.lst (ii other))) .un .un .un .un .un)
      = some (.nx, Wo ns fd' p m row (.t (.int (t : Nat))) (.own (.lst (ii other'))) .un .un .un .un .un) := by
  obtain ⟨b, fd2, h4, e2⟩ := lw_if (ns := ns) (a2 := .t (.int p)) (a3 := .t (.int m)) (a4 := .own (.lst (ii row))) (a5 := .un) (a6 := .t (.int (t : Nat))) (a7 := .own (.lst (ii other))) (a8 := .un) (a9 := .un) (a10 := .un) (a11 := .un) (a12 := .un) 2 (by decide) (by decide) hf
  cases b with
  | false => exact ⟨other, fd2, hl, h4, by rw [Wo, dIfS_f e2]; rfl⟩
  | true =>
    obtain ⟨ys, fd3, h5, h6, h7, e3⟩ := lw_comp (ns := ns) (a4 := .own (.lst (ii row))) (a6 := .t (.int (t : Nat))) (a7 := .own (.lst (ii other))) (a8 := .un) (a9 := .un) (a10 := .un) (a11 := .un) (a12 := .un) h hm h4
    refine ⟨ys, fd3, h5, h7, ?_⟩
    rw [Wo, dIfS_t e2]
    exact dSet_o e3 (show 7 < 13 from by decide)
section
variable {ns : List Int} {fd : List T} {p m t : Nat} {row other : List Int} {a8 a9 a10 a11 a12 : L}
/-- slots when both rows are drawn; the same as trees -/
def Wr (ns : List Int) (fd : List T) (p m t : Nat) (row other : List Int) (a8 a9 a10 a11 a12 : L) : REnv := Wo ns fd p m row (.t (.int (t : Nat))) (.own (.lst (ii other))) a8 a9 a10 a11 a12
def Wt (ns : List Int) (fd : List T) (p m t : Nat) (row other : List Int) (a8 a9 a10 a11 a12 : L) : REnv := [.t (.lkl (ii ns)), .t (.lst fd), .t (.int p), .t (.int m), .t (.lst (ii row)), .un, .t (.int (t : Nat)), .t (.lst (ii other)), a8, a9, a10, a11, a12]
theorem frzW (o8 o9 o10 o11 : List T) (a12 : Int) : frzE (Wr ns fd p m t row other (.own (.lst o8)) (.own (.lst o9)) (.own (.lst o10)) (.own (.lst o11)) .un) = Wt ns fd p m t row other (.t (.lst o8)) (.t (.lst o9)) (.t (.lst o10)) (.t (.lst o11)) .un := rfl
def K2 (row other : List Int) : List T := [.lst (ii row), .lst (ii other)]
def cnts (row other : List Int) : List Int := (List.range row.length).map (agr row other)
theorem cnts_len : (cnts row other).length = row.length := by simp [cnts]
theorem dTru_b {d : Den} {ρ ρ' : REnv} {b : Bool} (h : d ρ = some (.t (.bl b), ρ')) : dTru d ρ = some (b, ρ') := by simp only [dTru, h, Option.bind_some, L.truth, Option.map_some]
theorem dNot_t {d : DenT} {ρ ρ' : REnv} (h : d ρ = some (true, ρ')) : dNot d ρ = some (false, ρ') := by simp only [dNot, h, Option.map_some, Bool.not_true]
theorem dOr_ff {d d' : DenT} {ρ ρ1 ρ2 : REnv} (h : d ρ = some (false, ρ1)) (h2 : d' ρ1 = some (false, ρ2)) : dOr d d' ρ = some (false, ρ2) := by simp [dOr, h, h2]
/-- counts -/
theorem lw_s11 (hl : other.length = row.length) (hz : row.length < 300) : dSet 9 (dBor (dCallP 2 f__law_agreements (dCons (gVar 4) (dCons (gVar 7) dNil)))) (Wr ns fd p m t row other (.own (.lst (K2 row other))) .un .un .un .un)
    = some (.nx, Wr ns fd p m t row other (.own (.lst (K2 row other))) (.own (.lst (ii (cnts row other)))) .un .un .un) := by
  have e := dCallP_eq (n := 2) (da := dCons (gVar 4) (dCons (gVar 7) dNil)) (ρ := Wt ns fd p m t row other (.t (.lst (K2 row other))) .un .un .un .un) (ρ1 := Wt ns fd p m t row other (.t (.lst (K2 row other))) .un .un .un .un) rfl rfl (ev_law_agreements hl (by omega)) rfl
  exact dSet_o (dBor_eq (ρ := Wr ns fd p m t row other (.own (.lst (K2 row other))) .un .un .un .un) e (noL_own _)) (show 9 < 13 from by decide)
theorem lw_s12 (hl : other.length = row.length) (hz : row.length < 300) : dSet 10 (dBor (dCallP 2 f_agreements (dCons (gVar 4) (dCons (gVar 7) dNil)))) (Wr ns fd p m t row other (.own (.lst (K2 row other))) (.own (.lst (ii (cnts row other)))) .un .un .un)
    = some (.nx, Wr ns fd p m t row other (.own (.lst (K2 row other))) (.own (.lst (ii (cnts row other)))) (.own (.lst (ii (cnts row other)))) .un .un) := by
  let F := Wt ns fd p m t row other (.t (.lst (K2 row other))) (.t (.lst (ii (cnts row other)))) .un .un .un
  have e := dCallP_eq (n := 2) (da := dCons (gVar 4) (dCons (gVar 7) dNil)) (ρ := F) (ρ1 := F) rfl rfl (ev_agreements hl (by omega)) rfl
  exact dSet_o (dBor_eq (ρ := Wr ns fd p m t row other (.own (.lst (K2 row other))) (.own (.lst (ii (cnts row other)))) .un .un .un) e (noL_own _)) (show 10 < 13 from by decide)
/-- told is alike, what was handed in stays -/
theorem lw_s13 (hl : other.length = row.length) (hz : row.length < 300) : dOr (dNot (dTru (dBor (dCallP 2 (f__law_alike 5) (dCons (gVar 10) (dCons (gVar 9) dNil)))))) (dBl (dBor (den2 (gB gNe) (gVar 8) (dLst (dCons (gVar 4) (dCons (gVar 7) dNil))))))
    (Wr ns fd p m t row other (.own (.lst (K2 row other))) (.own (.lst (ii (cnts row other)))) (.own (.lst (ii (cnts row other)))) .un .un) = some (false, Wr ns fd p m t row other (.own (.lst (K2 row other))) (.own (.lst (ii (cnts row other)))) (.own (.lst (ii (cnts row other)))) .un .un) := by
  let G := Wr ns fd p m t row other (.own (.lst (K2 row other))) (.own (.lst (ii (cnts row other)))) (.own (.lst (ii (cnts row other)))) .un .un
  let F := Wt ns fd p m t row other (.t (.lst (K2 row other))) (.t (.lst (ii (cnts row other)))) (.t (.lst (ii (cnts row other)))) .un .un
  have al : f__law_alike 5 [.lst (ii (cnts row other)), .lst (ii (cnts row other))] = some (.t (.bl true)) := alike_ii (by rw [cnts_len]; omega)
  have e1 := dCallP_eq (n := 2) (da := dCons (gVar 10) (dCons (gVar 9) dNil)) (ρ := F) (ρ1 := F) rfl rfl al rfl
  have e2 := dNot_t (dTru_b (dBor_eq (ρ := G) e1 (noL_bl _)))
  have e3 : den2 (gB gNe) (gVar 8) (dLst (dCons (gVar 4) (dCons (gVar 7) dNil))) F = some (.t (.bl false), F) := by
    refine den2_eq (l1 := .t (.lst (K2 row other))) (ρ1 := F) rfl (l2 := .own (.lst (K2 row other))) (ρ2 := F) rfl ?_
    simp only [gB, gNe, gEq, L.view, K2, eqOk_two, eqv_two, if_true, Option.map_some, Bool.not_true]
  exact dOr_ff e2 (dBl_eq (dBor_eq (ρ := G) e3 (noL_bl _)))
theorem lw_s14 (hz : row.length < 300) : dDrop (dMeth 10 fAppend (dCons (gC (.int 0)) dNil)) (Wr ns fd p m t row other (.own (.lst (K2 row other))) (.own (.lst (ii (cnts row other)))) (.own (.lst (ii (cnts row other)))) .un .un)
    = some (.nx, Wr ns fd p m t row other (.own (.lst (K2 row other))) (.own (.lst (ii (cnts row other)))) (.own (.lst (ii (cnts row other) ++ [.int 0]))) .un .un) := by
  have ha : fAppend (ii (cnts row other)) [.int 0] = some (.non, ii (cnts row other) ++ [.int 0]) := app_own (by simp [line, ii, cnts_len]; omega)
  have hd : dCons (gC (.int 0)) dNil (Wr ns fd p m t row other (.own (.lst (K2 row other))) (.own (.lst (ii (cnts row other)))) (.own (.lst (ii (cnts row other)))) .un .un) = some ([.int 0], Wr ns fd p m t row other (.own (.lst (K2 row other))) (.own (.lst (ii (cnts row other)))) (.own (.lst (ii (cnts row other)))) .un .un) := rfl
  rw [dDrop, dMeth, hd]
  simp only [Wr, Wo, W, isOwnL, List.getElem?_cons_zero, List.getElem?_cons_succ, if_true, Option.bind_some, ha, Option.map_some, List.set_cons_zero, List.set_cons_succ]
end
end LK
namespace LK
open PySem LW
open L2 (atI ixN)

section
variable {ns : List Int} {fd : List T} {p m t : Nat} {row other : List Int} {a8 a9 a10 a11 a12 : L}
theorem noLs_pairs : ∀ ps : List (Int × Int), T.noLs (ps.map pairT) = true
  | [] => rfl
  | p :: ps => by simp only [List.map_cons, T.noLs, noLs_pairs ps, Bool.and_true]; rfl
theorem noL_pairs (ps : List (Int × Int)) : (L.own (.lst (ps.map pairT))).noL = true := noLs_pairs ps
/-- the slots behind the counts -/
def Wc (ns : List Int) (fd : List T) (p m t : Nat) (row other : List Int) (a11 a12 : L) : REnv := Wr ns fd p m t row other (.own (.lst (K2 row other))) (.own (.lst (ii (cnts row other)))) (.own (.lst (ii (cnts row other) ++ [.int 0]))) a11 a12
def Wd (ns : List Int) (fd : List T) (p m t : Nat) (row other : List Int) (a11 a12 : L) : REnv := Wt ns fd p m t row other (.t (.lst (K2 row other))) (.t (.lst (ii (cnts row other)))) (.t (.lst (ii (cnts row other) ++ [.int 0]))) a11 a12
theorem lw_s15 (hl : other.length = row.length) (hz : row.length < 300) : dNot (dTru (dBor (dCallP 2 (f__law_alike 5) (dCons (dBor (dCallP 2 f_agreements (dCons (gVar 4) (dCons (gVar 7) dNil)))) (dCons (gVar 9) dNil))))) (Wc ns fd p m t row other .un .un) = some (false, Wc ns fd p m t row other .un .un) := by
  let G := Wc ns fd p m t row other .un .un
  let F := Wd ns fd p m t row other .un .un
  have e0 := dCallP_eq (n := 2) (da := dCons (gVar 4) (dCons (gVar 7) dNil)) (ρ := F) (ρ1 := F) rfl rfl (ev_agreements hl (by omega)) rfl
  have e1 : dBor (dCallP 2 f_agreements (dCons (gVar 4) (dCons (gVar 7) dNil))) F = some (.own (.lst (ii (cnts row other))), F) := dBor_eq (ρ := F) e0 (noL_own _)
  have e2 : dCons (dBor (dCallP 2 f_agreements (dCons (gVar 4) (dCons (gVar 7) dNil)))) (dCons (gVar 9) dNil) F = some ([.lst (ii (cnts row other)), .lst (ii (cnts row other))], F) := dCons_eq e1 rfl rfl
  have al : f__law_alike 5 [.lst (ii (cnts row other)), .lst (ii (cnts row other))] = some (.t (.bl true)) := alike_ii (by rw [cnts_len]; omega)
  exact dNot_t (dTru_b (dBor_eq (ρ := G) (dCallP_eq (n := 2) e2 rfl al rfl) (noL_bl _)))
def turnI (t : Nat) (a : List Int) : List Int := a.drop t ++ a.take t
theorem cnts_turn (hl : other.length = row.length) (ht : t < row.length) : cnts row (turnI t other) = turnI t (cnts row other) := agr_turns hl ht
theorem lw_s16 (hl : other.length = row.length) (hz : row.length < 300) (ht : t < row.length) : dSet 11 (dBor (dCallP 2 f_agreements (dCons (gVar 4) (dCons (den2 gAdd (dSl (gVar 7) (dSome (gVar 6)) dNone) (dSl (gVar 7) dNone (dSome (gVar 6)))) dNil)))) (Wc ns fd p m t row other .un .un)
    = some (.nx, Wc ns fd p m t row other (.own (.lst (ii (turnI t (cnts row other))))) .un) := by
  let G := Wc ns fd p m t row other .un .un
  let F := Wd ns fd p m t row other .un .un
  have e1 := turn_denT (ρ := F) (i := 7) (a := other) (t := t) rfl rfl (by omega)
  have hl2 : (turnI t other).length = row.length := by rw [turnI, turn_len (by omega), hl]
  have ev := ev_agreements (row := row) (other := turnI t other) hl2 (by omega)
  rw [show (List.range row.length).map (agr row (turnI t other)) = cnts row (turnI t other) from rfl, cnts_turn hl ht] at ev
  have e2 := dCallP_eq (n := 2) (dCons_eq (d := gVar 4) (ρ := F) (ρ1 := F) (l := .t (.lst (ii row))) rfl rfl (dCons_eq e1 rfl (da := dNil) (ts := []) rfl)) rfl ev rfl
  exact dSet_o (dBor_eq (ρ := G) e2 (noL_own _)) (show 11 < 13 from by decide)
theorem gIx_n (ρ : REnv) {xs : List T} {i : Int} {x : T} (e : atI xs i = some x) : gIx ρ (.own (.lst xs)) (.t (.int i)) = some (.t x) := by simp only [gIx, L.lview, e, Option.bind_some, Option.map_some]
theorem lw_s17 (hl : other.length = row.length) (hz : row.length < 300) (h0 : 0 < row.length) (hm : row.length = m) :
    dOr (dNot (dTru (dBor (dCallP 2 (f__law_alike 5) (dCons (gVar 11) (dCons (den2 gAdd (dSl (gVar 9) (dSome (gVar 6)) dNone) (dSl (gVar 9) dNone (dSome (gVar 6)))) dNil)))))) (dNot (dTru (dBor (dCallP 2 (f__law_alike 5) (dCons (den2 gIx (dBor (dCallP 2 f_agreements (dCons (gVar 4) (dCons (gVar 4) dNil)))) (gC (.int 0))) (dCons (gVar 3) dNil))))))
     (Wc ns fd p m t row other (.own (.lst (ii (turnI t (cnts row other))))) .un) = some (false, Wc ns fd p m t row other (.own (.lst (ii (turnI t (cnts row other))))) .un) := by
  let G := Wc ns fd p m t row other (.own (.lst (ii (turnI t (cnts row other))))) .un
  let F := Wd ns fd p m t row other (.t (.lst (ii (turnI t (cnts row other))))) .un
  have e1 := turn_denT (ρ := F) (i := 9) (a := cnts row other) (t := t) rfl rfl (by rw [cnts_len]; omega)
  have tl : (turnI t (cnts row other)).length ≤ row.length := by simp only [turnI, List.length_append, List.length_drop, List.length_take, cnts_len]; omega
  have al : f__law_alike 5 [.lst (ii (turnI t (cnts row other))), .lst (ii (turnI t (cnts row other)))] = some (.t (.bl true)) := alike_ii (by omega)
  have e2 := dCallP_eq (n := 2) (dCons_eq (d := gVar 11) (ρ := F) (ρ1 := F) (l := .t (.lst (ii (turnI t (cnts row other))))) rfl rfl (dCons_eq e1 rfl (da := dNil) (ts := []) rfl)) rfl al rfl
  have k1 := dNot_t (dTru_b (dBor_eq (ρ := G) e2 (noL_bl _)))
  have f0 := dCallP_eq (n := 2) (da := dCons (gVar 4) (dCons (gVar 4) dNil)) (ρ := F) (ρ1 := F) rfl rfl (ev_agreements (row := row) (other := row) rfl (by omega)) rfl
  have f1 : dBor (dCallP 2 f_agreements (dCons (gVar 4) (dCons (gVar 4) dNil))) F = some (.own (.lst (ii (cnts row row))), F) := dBor_eq (ρ := F) f0 (noL_own _)
  have ix := atI_ints (ns := cnts row row) (i := 0) (by decide) (by rw [cnts_len]; omega)
  have e9 : (cnts row row).getD (Int.toNat 0) 0 = (m : Int) := by
    rw [show Int.toNat 0 = 0 from rfl, cnts, getD_range h0, agr_self, hm]
  rw [e9] at ix
  have f2 : den2 gIx (dBor (dCallP 2 f_agreements (dCons (gVar 4) (dCons (gVar 4) dNil)))) (gC (.int 0)) F = some (.t (.int (m : Nat)), F) := den2_eq f1 rfl (gIx_n _ ix)
  have f3 : dCons (den2 gIx (dBor (dCallP 2 f_agreements (dCons (gVar 4) (dCons (gVar 4) dNil)))) (gC (.int 0))) (dCons (gVar 3) dNil) F = some ([.int (m : Nat), .int (m : Nat)], F) := dCons_eq f2 rfl rfl
  have k2 := dNot_t (dTru_b (dBor_eq (ρ := G) (dCallP_eq (n := 2) f3 rfl (alike_int _) rfl) (noL_bl _)))
  exact dOr_ff k1 k2
theorem lw_runs {i : Nat} {x : List Int} {a11 : List T} (h0 : 0 < x.length) (hz : x.length < 300)
    (hi : gVar i (Wd ns fd p m t row other (.t (.lst a11)) .un) = some (.t (.lst (ii x)), Wd ns fd p m t row other (.t (.lst a11)) .un)) :
    dNot (dTru (dCallP 2 (f__law_alike 5) (dCons (dBor (dCallP 1 f_runs_of (dCons (gVar i) dNil))) (dCons (dBor (dCallP 1 f__law_runs (dCons (gVar i) dNil))) dNil))))
      (Wc ns fd p m t row other (.own (.lst a11)) .un) = some (false, Wc ns fd p m t row other (.own (.lst a11)) .un) := by
  let G := Wc ns fd p m t row other (.own (.lst a11)) .un
  let F := Wd ns fd p m t row other (.t (.lst a11)) .un
  have hf := runs_few h0 (by omega)
  have c0 : dCons (gVar i) dNil F = some ([.lst (ii x)], F) := dCons_eq hi rfl rfl
  have b1 := dBor_eq (ρ := G) (dCallP_eq (n := 1) c0 rfl (ev_runs_of h0 (by omega) hf) rfl) (noL_pairs _)
  have b2 := dBor_eq (ρ := G) (dCallP_eq (n := 1) c0 rfl (ev_law_runs h0 (by omega)) rfl) (noL_pairs _)
  have al : f__law_alike 5 [.lst ((runsP (bgnI x) x.length).map pairT), .lst ((runsP (bgnI x) x.length).map pairT)] = some (.t (.bl true)) := alike_pairs (by rw [runsP, List.length_map]; omega)
  exact dNot_t (dTru_b (dCallP_eq (n := 2) (dCons_eq b1 rfl (dCons_eq b2 rfl (da := dNil) (ts := []) rfl)) rfl al rfl))
end
end LK
namespace LK
open PySem LW
open L2 (atI ixN)

section
variable {ns : List Int} {fd : List T} {p m t : Nat} {row other : List Int}
theorem thn_len (row : List Int) (s k : Nat) : (thn row s k).length = k := by simp [thn]
theorem lw_thin {s : Nat} {a11 : List T} (h0 : 0 < row.length) (hz : row.length < 300) (hs : s < 1000) :
    dIfS (dNot (dTru (dCallP 2 (f__law_alike 5) (dCons (dBor (dCallP 2 f_thinned (dCons (gVar 4) (dCons (gVar 12) dNil)))) (dCons (dBor (dCallP 2 f__law_thinned (dCons (gVar 4) (dCons (gVar 12) dNil)))) dNil))))) (dRet (gC (.bl false))) dNx (Wc ns fd p m t row other (.own (.lst a11)) (.t (.int (s : Nat))))
      = some (.nx, Wc ns fd p m t row other (.own (.lst a11)) (.t (.int (s : Nat)))) := by
  let G := Wc ns fd p m t row other (.own (.lst a11)) (.t (.int (s : Nat)))
  let F := Wd ns fd p m t row other (.t (.lst a11)) (.t (.int (s : Nat)))
  have c0 : dCons (gVar 4) (dCons (gVar 12) dNil) F = some ([.lst (ii row), .int (s : Nat)], F) := rfl
  have b1 := dBor_eq (ρ := G) (dCallP_eq (n := 2) c0 rfl (ev_thinned h0 (by omega) hs) rfl) (noL_own _)
  have b2 := dBor_eq (ρ := G) (dCallP_eq (n := 2) c0 rfl (ev_law_thinned h0 (by omega) hs) rfl) (noL_own _)
  have hd : row.length / Nat.gcd row.length s ≤ row.length := Nat.div_le_self _ _
  have al : f__law_alike 5 [.lst (ii (thn row s (row.length / Nat.gcd row.length s))), .lst (ii (thn row s (row.length / Nat.gcd row.length s)))] = some (.t (.bl true)) := alike_ii (by rw [thn_len]; omega)
  have k := dNot_t (dTru_b (dCallP_eq (n := 2) (dCons_eq b1 rfl (dCons_eq b2 rfl (da := dNil) (ts := []) rfl)) rfl al rfl))
  rw [dIfS_f k]
  rfl
theorem lw_loop {a11 : List T} (h0 : 0 < row.length) (hz : row.length < 300) (hm : m < 300) (hf : GF fd) :
    ∃ fd' x, GF fd' ∧ dFor [12] (iSeq (dLst (dCons (den2 gAdd (gC (.int 1)) (dCallF 2 1 g__law_draw (dCons (gC (.int 6)) dNil))) (dCons (den2 gAdd (gC (.int 1)) (dCallF 2 1 g__law_draw (dCons (gC (.int 250)) dNil))) (dCons (gVar 3) dNil))))) (gNameT 12) (dIfS (dNot (dTru (dCallP 2 (f__law_alike 5) (dCons (dBor (dCallP 2 f_thinned (dCons (gVar 4) (dCons (gVar 12) dNil)))) (dCons (dBor (dCallP 2 f__law_thinned (dCons (gVar 4) (dCons (gVar 12) dNil)))) dNil))))) (dRet (gC (.bl false))) dNx) (Wc ns fd p m t row other (.own (.lst a11)) .un)
      = some (.nx, Wc ns fd' p m t row other (.own (.lst a11)) x) := by
  obtain ⟨s1, fd1, h1, h2, h3, e1⟩ := lw_add (ns := ns) (fd := fd) (a2 := .t (.int p)) (a3 := .t (.int m)) (a4 := .own (.lst (ii row))) (a5 := .un) (a6 := .t (.int (t : Nat))) (a7 := .own (.lst (ii other))) (a8 := .own (.lst (K2 row other))) (a9 := .own (.lst (ii (cnts row other)))) (a10 := .own (.lst (ii (cnts row other) ++ [.int 0]))) (a11 := .own (.lst a11)) (a12 := .un) 1 6 (by decide) (by decide) hf
  obtain ⟨s2, fd2, h4, h5, h6, e2⟩ := lw_add (ns := ns) (fd := fd1) (a2 := .t (.int p)) (a3 := .t (.int m)) (a4 := .own (.lst (ii row))) (a5 := .un) (a6 := .t (.int (t : Nat))) (a7 := .own (.lst (ii other))) (a8 := .own (.lst (K2 row other))) (a9 := .own (.lst (ii (cnts row other)))) (a10 := .own (.lst (ii (cnts row other) ++ [.int 0]))) (a11 := .own (.lst a11)) (a12 := .un) 1 250 (by decide) (by decide) h1
  have d1 := dCons_eq e1 rfl (dCons_eq e2 rfl (dCons_eq (d := gVar 3) (l := .t (.int (m : Nat))) (ρ1 := Wc ns fd2 p m t row other (.own (.lst a11)) .un) rfl rfl (da := dNil) (ts := []) rfl))
  have src : iSeq (dLst (dCons (den2 gAdd (gC (.int 1)) (dCallF 2 1 g__law_draw (dCons (gC (.int 6)) dNil))) (dCons (den2 gAdd (gC (.int 1)) (dCallF 2 1 g__law_draw (dCons (gC (.int 250)) dNil))) (dCons (gVar 3) dNil)))) (Wc ns fd p m t row other (.own (.lst a11)) .un) = some (([s1, s2, m] : List Nat).map fun i => T.int (i : Nat), none, Wc ns fd2 p m t row other (.own (.lst a11)) .un) := by
    have d2 : dLst (dCons (den2 gAdd (gC (.int 1)) (dCallF 2 1 g__law_draw (dCons (gC (.int 6)) dNil))) (dCons (den2 gAdd (gC (.int 1)) (dCallF 2 1 g__law_draw (dCons (gC (.int 250)) dNil))) (dCons (gVar 3) dNil))) (Wc ns fd p m t row other (.own (.lst a11)) .un) = some (.own (.lst [.int (s1 : Nat), .int (s2 : Nat), .int (m : Nat)]), Wc ns fd2 p m t row other (.own (.lst a11)) .un) := by
      show (Option.bind _ _) = _
      erw [d1]
      rfl
    show Option.bind _ _ = _
    rw [d2]
    rfl
  obtain ⟨ρ', hl, x, rfl⟩ := forL_inv (g := gNameT 12) (db := dIfS (dNot (dTru (dCallP 2 (f__law_alike 5) (dCons (dBor (dCallP 2 f_thinned (dCons (gVar 4) (dCons (gVar 12) dNil)))) (dCons (dBor (dCallP 2 f__law_thinned (dCons (gVar 4) (dCons (gVar 12) dNil)))) dNil))))) (dRet (gC (.bl false))) dNx) (t := fun i : Nat => T.int (i : Nat)) (β := Unit)
    (fun _ ρ => ∃ x, ρ = Wc ns fd2 p m t row other (.own (.lst a11)) x) (fun b _ => b) [s1, s2, m] (by
      rintro s hs _ _ ⟨x, rfl⟩
      have hs2 : s < 1000 := by
        simp only [List.mem_cons, List.not_mem_nil, or_false] at hs
        rcases hs with rfl | rfl | rfl <;> omega
      exact ⟨Wc ns fd2 p m t row other (.own (.lst a11)) (.t (.int (s : Nat))), _, rfl, lw_thin h0 hz hs2, _, rfl⟩) () (Wc ns fd2 p m t row other (.own (.lst a11)) .un) ⟨_, rfl⟩
  exact ⟨fd2, x, h4, dFor_eq src hl⟩
end
theorem ev_law (ns : List Int) : f_law [.lkl (ii ns)] = some (.t (.bl true)) := by
  have s1 := lw_s1 ns
  obtain ⟨p, fd1, hp, hf1, s2⟩ := lw_s2 (ns := ns) (gf0 ns)
  have hp8 := prm_lt hp
  obtain ⟨m, fd2, hm1, hm2, hf2, s3⟩ := lw_s4 (ns := ns) (a2 := .t (.int (p : Nat))) hf1
  obtain ⟨row0, fd3, hr1, hr2, hf3, c4⟩ := lw_comp (ns := ns) (m := m) (a4 := .un) (a6 := .un) (a7 := .un) (a8 := .un) (a9 := .un) (a10 := .un) (a11 := .un) (a12 := .un) hp (by omega) hf2
  have s4 := dSet_o (i := 4) c4 (show 4 < 13 from by decide)
  obtain ⟨row, fd4, hrl, hf4, s5⟩ := lw_s6 (ns := ns) hp (by omega) (by omega) hr1 hf3 hr2
  obtain ⟨tv, fd5, e6, ht0, ht1, hf5⟩ := draw_call (i := 1) (da := dCons (gVar 3) dNil) (ρ := Wo ns fd4 p m row .un .un .un .un .un .un .un) (m := m) rfl rfl rfl hf4 (by omega) (by omega)
  obtain ⟨t, rfl⟩ := Int.eq_ofNat_of_zero_le ht0
  have ht : t < m := by omega
  have s6 : dSet 6 (dCallF 2 1 g__law_draw (dCons (gVar 3) dNil)) (Wo ns fd4 p m row .un .un .un .un .un .un .un) = some (.nx, Wo ns fd5 p m row (.t (.int (t : Nat))) .un .un .un .un .un .un) := dSet_t e6 (show 6 < 13 from by decide)
  have e7 := turn_den (ρ := Wo ns fd5 p m row (.t (.int (t : Nat))) .un .un .un .un .un .un) (i := 4) (a := row) (t := t) rfl rfl rfl (by omega)
  have s7 : dSet 7 (den2 gAdd (dSl (gVar 4) (dSome (gVar 6)) dNone) (dSl (gVar 4) dNone (dSome (gVar 6)))) (Wo ns fd5 p m row (.t (.int (t : Nat))) .un .un .un .un .un .un) = some (.nx, Wo ns fd5 p m row (.t (.int (t : Nat))) (.own (.lst (ii (turnI t row)))) .un .un .un .un .un) := dSet_o e7 (show 7 < 13 from by decide)
  have tl : (turnI t row).length = m := by rw [turnI, turn_len (by omega), hrl]
  obtain ⟨other, fd6, hol, hf6, s8⟩ := lw_s9 (ns := ns) (t := t) (row := row) hp (by omega) (by omega) tl hf5
  have s9 : dSet 8 (dLst (dCons (den1 gList (gVar 4)) (dCons (den1 gList (gVar 7)) dNil))) (Wr ns fd6 p m t row other .un .un .un .un .un) = some (.nx, Wr ns fd6 p m t row other (.own (.lst (K2 row other))) .un .un .un .un) := rfl
  have hl : other.length = row.length := by omega
  have hz : row.length < 300 := by omega
  have h0 : 0 < row.length := by omega
  have s10 := lw_s11 (ns := ns) (fd := fd6) (p := p) (m := m) (t := t) hl hz
  have s11 := lw_s12 (ns := ns) (fd := fd6) (p := p) (m := m) (t := t) hl hz
  have s12 := lw_s13 (ns := ns) (fd := fd6) (p := p) (m := m) (t := t) hl hz
  have s13 := lw_s14 (ns := ns) (fd := fd6) (p := p) (m := m) (t := t) (other := other) hz
  have s14 := lw_s15 (ns := ns) (fd := fd6) (p := p) (m := m) (t := t) hl hz
  have s15 := lw_s16 (ns := ns) (fd := fd6) (p := p) (m := m) (t := t) hl hz (by omega)
  have s16 := lw_s17 (ns := ns) (fd := fd6) (p := p) (m := m) (t := t) hl hz h0 hrl
  have r1 := lw_runs (ns := ns) (fd := fd6) (p := p) (m := m) (t := t) (row := row) (other := other) (i := 4) (x := row) (a11 := ii (turnI t (cnts row other))) h0 hz rfl
  have r2 := lw_runs (ns := ns) (fd := fd6) (p := p) (m := m) (t := t) (row := row) (other := other) (i := 7) (x := other) (a11 := ii (turnI t (cnts row other))) (by omega) (by omega) rfl
  have s17 := dOr_ff r1 r2
  obtain ⟨fd7, x, hf7, s18⟩ := lw_loop (ns := ns) (fd := fd6) (p := p) (m := m) (t := t) (row := row) (other := other) (a11 := ii (turnI t (cnts row other))) h0 hz (by omega) hf6
  obtain ⟨fd8, e19⟩ := ev_shifted hp hf7
  have s19 : dCallF 2 1 g__law_shifted (dCons (gVar 2) dNil) (Wc ns fd7 p m t row other (.own (.lst (ii (turnI t (cnts row other))))) x) = some (.t (.bl true), (Wc ns fd7 p m t row other (.own (.lst (ii (turnI t (cnts row other))))) x).set 1 (.own (.lst fd8))) := by
    have ho : isOwnL (Wc ns fd7 p m t row other (.own (.lst (ii (turnI t (cnts row other))))) x) 1 = true := rfl
    have ha : dCons (gVar 2) dNil (Wc ns fd7 p m t row other (.own (.lst (ii (turnI t (cnts row other))))) x) = some ([.int p], Wc ns fd7 p m t row other (.own (.lst (ii (turnI t (cnts row other))))) x) := rfl
    have h1 : (Wc ns fd7 p m t row other (.own (.lst (ii (turnI t (cnts row other))))) x)[1]? = some (.own (.lst fd7)) := rfl
    simp only [dCallF, ho, ha, h1, e19, if_true, Option.bind_some, List.length_cons, List.length_nil, Nat.zero_add, Nat.reduceAdd, nor, Option.map_some]
  refine bodyP_t (ρ' := (Wc ns fd7 p m t row other (.own (.lst (ii (turnI t (cnts row other))))) x).set 1 (.own (.lst fd8))) rfl ?_
  show d_law [.t (.lkl (ii ns)), .un, .un, .un, .un, .un, .un, .un, .un, .un, .un, .un, .un] = _
  rw [d_law, dSeq_nx s1, dSeq_nx s2, s3, dSeq_nx s4]
  rw [show (W ns fd3 (.t (.int (p : Nat))) (.t (.int (m : Nat))) .un .un .un .un .un .un .un .un .un).set 4 (.own (.lst (ii row0))) = Wo ns fd3 p m row0 .un .un .un .un .un .un .un from rfl, dSeq_nx s5, dSeq_nx s6, dSeq_nx s7, dSeq_nx s8]
  show dSeq _ _ (Wr ns fd6 p m t row other .un .un .un .un .un) = _
  rw [dSeq_nx s9, dSeq_nx s10, dSeq_nx s11, dSeq_nx (by rw [dIfS_f s12]; rfl), dSeq_nx s13]
  show dSeq _ _ (Wc ns fd6 p m t row other .un .un) = _
  rw [dSeq_nx (by rw [dIfS_f s14]; rfl), dSeq_nx s15, dSeq_nx (by rw [dIfS_f s16]; rfl), dSeq_nx (by rw [dIfS_f s17]; rfl), dSeq_nx s18]
  exact dRet_eq s19
end LK
namespace LK
open PySem PySem.Spec PyProof.Rows L2 LW
abbrev fa0 : Nat → Addr := fun _ => 0
def spLaw (K : PySem.W.Frag) : Sp := spM K fa0 1 (pureF f_law)
theorem law_sp {K : PySem.W.Frag} {H : Hp} {a : Addr} {ns : List Int} {E : XK} (hS : SqL K H a (ns.map V.int)) : spLaw K [.ref a] H (fun v _ => v = .bl true) E :=
  ⟨rfl, H, [.t (.lkl (ns.map T.int))], .t (.bl true), [.t (.lkl (ns.map T.int))], env_ts (ts := [.lkl (ns.map T.int)]) (Same.refl _) (RepAll.one (.lkl hS (RepAll.of_ints ns))), by
    have e : f_law [.lkl (ns.map T.int)] = some (.t (.bl true)) := ev_law ns
    simp only [pureF, allT, Option.map_some, Option.bind_some, e], fun v G' H' P => Rep.bl_inv P.rep⟩
theorem all_mk {l : PySem.W.OpenLaw} {w : World} {K : PySem.W.Frag} {h : Heap} {mg : Str → Option Value} {fa f1 f2 f3 f4 f5 f6 f7 f8 f9 f10 f11 f12 f13 f14 f15 f16 f17 f18 f19 : Addr} (X : K.In h) (G : h.Ns mainGlobals mg) (hfa : mg "law" = some (.ref fa))
    {od1 an1 od2 an2 od3 an3 od4 an4 od5 an5 od6 an6 od7 an7 od8 an8 od9 an9 od10 an10 od11 an11 od12 an12 od13 an13 od14 an14 od15 an15 od16 an16 od17 an17 od18 an18 od19 an19 : Option Addr} {sl1 sl2 sl3 sl4 sl5 sl6 sl7 sl8 sl9 sl10 sl11 sl12 sl13 sl14 sl15 sl16 sl17 sl18 sl19 : Array (Option Value)} {oc1 kV1 dc1 pm1 cd1 ct1 oc2 kV2 dc2 pm2 cd2 ct2 oc3 kV3 dc3 pm3 cd3 ct3 oc4 kV4 dc4 pm4 cd4 ct4 oc5 kV5 dc5 pm5 cd5 ct5 oc6 kV6 dc6 pm6 cd6 ct6 oc7 kV7 dc7 pm7 cd7 ct7 oc8 kV8 dc8 pm8 cd8 ct8 oc9 kV9 dc9 pm9 cd9 ct9 oc10 kV10 dc10 pm10 cd10 ct10 oc11 kV11 dc11 pm11 cd11 ct11 oc12 kV12 dc12 pm12 cd12 ct12 oc13 kV13 dc13 pm13 cd13 ct13 oc14 kV14 dc14 pm14 cd14 ct14 oc15 kV15 dc15 pm15 cd15 ct15 oc16 kV16 dc16 pm16 cd16 ct16 oc17 kV17 dc17 pm17 cd17 ct17 oc18 kV18 dc18 pm18 cd18 ct18 oc19 kV19 dc19 pm19 cd19 ct19 : Value}
    (a1 : PySem.W.nsIn K mainGlobals "_law_agreements" = some (some (.ref f1))) (l1 : K.lookup f1 = some ⟨oc1, od1, .func (PySem.W.fnOf "_law_agreements" "_law_agreements" (defArgs s__law_agreements) (defBody s__law_agreements) (defScope s__law_agreements) .none kV1 dc1 pm1 an1 cd1 ct1), sl1⟩) (c1 : PySem.W.codeIn K cd1 "_law_agreements" = true) (k1 : PySem.W.keepIn K (.ref f1) = true)
    (a2 : PySem.W.nsIn K mainGlobals "_law_alike" = some (some (.ref f2))) (l2 : K.lookup f2 = some ⟨oc2, od2, .func (PySem.W.fnOf "_law_alike" "_law_alike" (defArgs s__law_alike) (defBody s__law_alike) (defScope s__law_alike) .none kV2 dc2 pm2 an2 cd2 ct2), sl2⟩) (c2 : PySem.W.codeIn K cd2 "_law_alike" = true) (k2 : PySem.W.keepIn K (.ref f2) = true)
    (a3 : PySem.W.nsIn K mainGlobals "_law_draw" = some (some (.ref f3))) (l3 : K.lookup f3 = some ⟨oc3, od3, .func (PySem.W.fnOf "_law_draw" "_law_draw" (defArgs s__law_draw) (defBody s__law_draw) (defScope s__law_draw) .none kV3 dc3 pm3 an3 cd3 ct3), sl3⟩) (c3 : PySem.W.codeIn K cd3 "_law_draw" = true) (k3 : PySem.W.keepIn K (.ref f3) = true)
    (a4 : PySem.W.nsIn K mainGlobals "_law_feed" = some (some (.ref f4))) (l4 : K.lookup f4 = some ⟨oc4, od4, .func (PySem.W.fnOf "_law_feed" "_law_feed" (defArgs s__law_feed) (defBody s__law_feed) (defScope s__law_feed) .none kV4 dc4 pm4 an4 cd4 ct4), sl4⟩) (c4 : PySem.W.codeIn K cd4 "_law_feed" = true) (k4 : PySem.W.keepIn K (.ref f4) = true)
    (a5 : PySem.W.nsIn K mainGlobals "_law_runs" = some (some (.ref f5))) (l5 : K.lookup f5 = some ⟨oc5, od5, .func (PySem.W.fnOf "_law_runs" "_law_runs" (defArgs s__law_runs) (defBody s__law_runs) (defScope s__law_runs) .none kV5 dc5 pm5 an5 cd5 ct5), sl5⟩) (c5 : PySem.W.codeIn K cd5 "_law_runs" = true) (k5 : PySem.W.keepIn K (.ref f5) = true)
    (a6 : PySem.W.nsIn K mainGlobals "_law_register" = some (some (.ref f6))) (l6 : K.lookup f6 = some ⟨oc6, od6, .func (PySem.W.fnOf "_law_register" "_law_register" (defArgs s__law_register) (defBody s__law_register) (defScope s__law_register) .none kV6 dc6 pm6 an6 cd6 ct6), sl6⟩) (c6 : PySem.W.codeIn K cd6 "_law_register" = true) (k6 : PySem.W.keepIn K (.ref f6) = true)
    (a7 : PySem.W.nsIn K mainGlobals "_law_shift" = some (some (.ref f7))) (l7 : K.lookup f7 = some ⟨oc7, od7, .func (PySem.W.fnOf "_law_shift" "_law_shift" (defArgs s__law_shift) (defBody s__law_shift) (defScope s__law_shift) .none kV7 dc7 pm7 an7 cd7 ct7), sl7⟩) (c7 : PySem.W.codeIn K cd7 "_law_shift" = true) (k7 : PySem.W.keepIn K (.ref f7) = true)
    (a8 : PySem.W.nsIn K mainGlobals "next_number" = some (some (.ref f8))) (l8 : K.lookup f8 = some ⟨oc8, od8, .func (PySem.W.fnOf "next_number" "next_number" (defArgs s_next_number) (defBody s_next_number) (defScope s_next_number) .none kV8 dc8 pm8 an8 cd8 ct8), sl8⟩) (c8 : PySem.W.codeIn K cd8 "next_number" = true) (k8 : PySem.W.keepIn K (.ref f8) = true)
    (a9 : PySem.W.nsIn K mainGlobals "register_row" = some (some (.ref f9))) (l9 : K.lookup f9 = some ⟨oc9, od9, .func (PySem.W.fnOf "register_row" "register_row" (defArgs s_register_row) (defBody s_register_row) (defScope s_register_row) .none kV9 dc9 pm9 an9 cd9 ct9), sl9⟩) (c9 : PySem.W.codeIn K cd9 "register_row" = true) (k9 : PySem.W.keepIn K (.ref f9) = true)
    (a10 : PySem.W.nsIn K mainGlobals "next_state" = some (some (.ref f10))) (l10 : K.lookup f10 = some ⟨oc10, od10, .func (PySem.W.fnOf "next_state" "next_state" (defArgs s_next_state) (defBody s_next_state) (defScope s_next_state) .none kV10 dc10 pm10 an10 cd10 ct10), sl10⟩) (c10 : PySem.W.codeIn K cd10 "next_state" = true) (k10 : PySem.W.keepIn K (.ref f10) = true)
    (a11 : PySem.W.nsIn K mainGlobals "round_from" = some (some (.ref f11))) (l11 : K.lookup f11 = some ⟨oc11, od11, .func (PySem.W.fnOf "round_from" "round_from" (defArgs s_round_from) (defBody s_round_from) (defScope s_round_from) .none kV11 dc11 pm11 an11 cd11 ct11), sl11⟩) (c11 : PySem.W.codeIn K cd11 "round_from" = true) (k11 : PySem.W.keepIn K (.ref f11) = true)
    (a12 : PySem.W.nsIn K mainGlobals "shift_and_add" = some (some (.ref f12))) (l12 : K.lookup f12 = some ⟨oc12, od12, .func (PySem.W.fnOf "shift_and_add" "shift_and_add" (defArgs s_shift_and_add) (defBody s_shift_and_add) (defScope s_shift_and_add) .none kV12 dc12 pm12 an12 cd12 ct12), sl12⟩) (c12 : PySem.W.codeIn K cd12 "shift_and_add" = true) (k12 : PySem.W.keepIn K (.ref f12) = true)
    (a13 : PySem.W.nsIn K mainGlobals "_law_shifted" = some (some (.ref f13))) (l13 : K.lookup f13 = some ⟨oc13, od13, .func (PySem.W.fnOf "_law_shifted" "_law_shifted" (defArgs s__law_shifted) (defBody s__law_shifted) (defScope s__law_shifted) .none kV13 dc13 pm13 an13 cd13 ct13), sl13⟩) (c13 : PySem.W.codeIn K cd13 "_law_shifted" = true) (k13 : PySem.W.keepIn K (.ref f13) = true)
    (a14 : PySem.W.nsIn K mainGlobals "_law_thinned" = some (some (.ref f14))) (l14 : K.lookup f14 = some ⟨oc14, od14, .func (PySem.W.fnOf "_law_thinned" "_law_thinned" (defArgs s__law_thinned) (defBody s__law_thinned) (defScope s__law_thinned) .none kV14 dc14 pm14 an14 cd14 ct14), sl14⟩) (c14 : PySem.W.codeIn K cd14 "_law_thinned" = true) (k14 : PySem.W.keepIn K (.ref f14) = true)
    (a15 : PySem.W.nsIn K mainGlobals "agreements" = some (some (.ref f15))) (l15 : K.lookup f15 = some ⟨oc15, od15, .func (PySem.W.fnOf "agreements" "agreements" (defArgs s_agreements) (defBody s_agreements) (defScope s_agreements) .none kV15 dc15 pm15 an15 cd15 ct15), sl15⟩) (c15 : PySem.W.codeIn K cd15 "agreements" = true) (k15 : PySem.W.keepIn K (.ref f15) = true)
    (a16 : PySem.W.nsIn K mainGlobals "runs_of" = some (some (.ref f16))) (l16 : K.lookup f16 = some ⟨oc16, od16, .func (PySem.W.fnOf "runs_of" "runs_of" (defArgs s_runs_of) (defBody s_runs_of) (defScope s_runs_of) .none kV16 dc16 pm16 an16 cd16 ct16), sl16⟩) (c16 : PySem.W.codeIn K cd16 "runs_of" = true) (k16 : PySem.W.keepIn K (.ref f16) = true)
    (a17 : PySem.W.nsIn K mainGlobals "greatest_common" = some (some (.ref f17))) (l17 : K.lookup f17 = some ⟨oc17, od17, .func (PySem.W.fnOf "greatest_common" "greatest_common" (defArgs s_greatest_common) (defBody s_greatest_common) (defScope s_greatest_common) .none kV17 dc17 pm17 an17 cd17 ct17), sl17⟩) (c17 : PySem.W.codeIn K cd17 "greatest_common" = true) (k17 : PySem.W.keepIn K (.ref f17) = true)
    (a18 : PySem.W.nsIn K mainGlobals "thinned" = some (some (.ref f18))) (l18 : K.lookup f18 = some ⟨oc18, od18, .func (PySem.W.fnOf "thinned" "thinned" (defArgs s_thinned) (defBody s_thinned) (defScope s_thinned) .none kV18 dc18 pm18 an18 cd18 ct18), sl18⟩) (c18 : PySem.W.codeIn K cd18 "thinned" = true) (k18 : PySem.W.keepIn K (.ref f18) = true)
    (a19 : PySem.W.nsIn K mainGlobals "law" = some (some (.ref f19))) (l19 : K.lookup f19 = some ⟨oc19, od19, .func (PySem.W.fnOf "law" "law" (defArgs s_law) (defBody s_law) (defScope s_law) .none kV19 dc19 pm19 an19 cd19 ct19), sl19⟩) (c19 : PySem.W.codeIn K cd19 "law" = true) (k19 : PySem.W.keepIn K (.ref f19) = true)
    (z_abs : PySem.W.nsIn K mainGlobals "abs" = some none)
    (z_bool : PySem.W.nsIn K mainGlobals "bool" = some none)
    (z_enumerate : PySem.W.nsIn K mainGlobals "enumerate" = some none)
    (z_int : PySem.W.nsIn K mainGlobals "int" = some none)
    (z_isinstance : PySem.W.nsIn K mainGlobals "isinstance" = some none)
    (z_len : PySem.W.nsIn K mainGlobals "len" = some none)
    (z_list : PySem.W.nsIn K mainGlobals "list" = some none)
    (z_range : PySem.W.nsIn K mainGlobals "range" = some none)
    (z_set : PySem.W.nsIn K mainGlobals "set" = some none)
    (z_sorted : PySem.W.nsIn K mainGlobals "sorted" = some none)
    (z_str : PySem.W.nsIn K mainGlobals "str" = some none)
    (z_sum : PySem.W.nsIn K mainGlobals "sum" = some none)
    (z_tuple : PySem.W.nsIn K mainGlobals "tuple" = some none)
    (z_zip : PySem.W.nsIn K mainGlobals "zip" = some none)
    : ∃ fd : FuncData, (∀ (s : Shared) (v : Value), BindsTo s fd ⟨[v], []⟩ [("script", v)]) ∧ ∀ base : Heap, K.In base → base.Ns mainGlobals mg → FnOk l.prog w K mg base CX0 8 fa fd ["script"] (spLaw K) := by
  have e := hfa.symm.trans (PySem.W.mg_of X G a19)
  cases e
  have F1 := fun_mk (st := s__law_agreements) l1 c1 k1
  have F2 := fun_mk (st := s__law_alike) l2 c2 k2
  have F3 := fun_mk (st := s__law_draw) l3 c3 k3
  have F4 := fun_mk (st := s__law_feed) l4 c4 k4
  have F5 := fun_mk (st := s__law_runs) l5 c5 k5
  have F6 := fun_mk (st := s__law_register) l6 c6 k6
  have F7 := fun_mk (st := s__law_shift) l7 c7 k7
  have F8 := fun_mk (st := s_next_number) l8 c8 k8
  have F9 := fun_mk (st := s_register_row) l9 c9 k9
  have F10 := fun_mk (st := s_next_state) l10 c10 k10
  have F11 := fun_mk (st := s_round_from) l11 c11 k11
  have F12 := fun_mk (st := s_shift_and_add) l12 c12 k12
  have F13 := fun_mk (st := s__law_shifted) l13 c13 k13
  have F14 := fun_mk (st := s__law_thinned) l14 c14 k14
  have F15 := fun_mk (st := s_agreements) l15 c15 k15
  have F16 := fun_mk (st := s_runs_of) l16 c16 k16
  have F17 := fun_mk (st := s_greatest_common) l17 c17 k17
  have F18 := fun_mk (st := s_thinned) l18 c18 k18
  have F19 := fun_mk (st := s_law) l19 c19 k19
  have m_abs := PySem.W.mg_none_of X G z_abs
  have m_bool := PySem.W.mg_none_of X G z_bool
  have m_enumerate := PySem.W.mg_none_of X G z_enumerate
  have m_int := PySem.W.mg_none_of X G z_int
  have m_isinstance := PySem.W.mg_none_of X G z_isinstance
  have m_len := PySem.W.mg_none_of X G z_len
  have m_list := PySem.W.mg_none_of X G z_list
  have m_range := PySem.W.mg_none_of X G z_range
  have m_set := PySem.W.mg_none_of X G z_set
  have m_sorted := PySem.W.mg_none_of X G z_sorted
  have m_str := PySem.W.mg_none_of X G z_str
  have m_sum := PySem.W.mg_none_of X G z_sum
  have m_tuple := PySem.W.mg_none_of X G z_tuple
  have m_zip := PySem.W.mg_none_of X G z_zip
  refine ⟨PySem.W.fnOf "law" "law" (defArgs s_law) (defBody s_law) (defScope s_law) .none kV19 dc19 pm19 an19 cd19 ct19, fun s v => .of_eq rfl, fun base _ _ => ?_⟩
  have b1 := F1.binds (ps := ["row", "other"]) fun _ _ _ _ _ _ us hl => match us, hl with | [_, _], _ => rfl
  have o__law_agreements : Fn l.prog w K mg base fa0 1 "_law_agreements" 2 (pureF f__law_agreements) := ok__law_agreements F1 (PySem.W.mg_of X G a1) b1  m_len m_range
  have b2 := F2.binds (ps := ["told", "due"]) fun _ _ _ _ _ _ us hl => match us, hl with | [_, _], _ => rfl
  have r0__law_alike : Fn l.prog w K mg base fa0 1 "_law_alike" 2 (pureF (f__law_alike 0)) := fn_none F2 sc__law_alike (PySem.W.mg_of X G a2) b2
  have r1__law_alike : Fn l.prog w K mg base fa0 2 "_law_alike" 2 (pureF (f__law_alike 1)) := ok__law_alike (fr := f__law_alike 0) F2 (PySem.W.mg_of X G a2) b2 r0__law_alike m_bool m_int m_isinstance m_len m_list m_range m_str m_tuple
  have r2__law_alike : Fn l.prog w K mg base fa0 3 "_law_alike" 2 (pureF (f__law_alike 2)) := ok__law_alike (fr := f__law_alike 1) F2 (PySem.W.mg_of X G a2) b2 r1__law_alike m_bool m_int m_isinstance m_len m_list m_range m_str m_tuple
  have r3__law_alike : Fn l.prog w K mg base fa0 4 "_law_alike" 2 (pureF (f__law_alike 3)) := ok__law_alike (fr := f__law_alike 2) F2 (PySem.W.mg_of X G a2) b2 r2__law_alike m_bool m_int m_isinstance m_len m_list m_range m_str m_tuple
  have r4__law_alike : Fn l.prog w K mg base fa0 5 "_law_alike" 2 (pureF (f__law_alike 4)) := ok__law_alike (fr := f__law_alike 3) F2 (PySem.W.mg_of X G a2) b2 r3__law_alike m_bool m_int m_isinstance m_len m_list m_range m_str m_tuple
  have r5__law_alike : Fn l.prog w K mg base fa0 6 "_law_alike" 2 (pureF (f__law_alike 5)) := ok__law_alike (fr := f__law_alike 4) F2 (PySem.W.mg_of X G a2) b2 r4__law_alike m_bool m_int m_isinstance m_len m_list m_range m_str m_tuple
  have o__law_alike := r5__law_alike
  have b3 := F3.binds (ps := ["feed", "many"]) fun _ _ _ _ _ _ us hl => match us, hl with | [_, _], _ => rfl
  have o__law_draw : Fn l.prog w K mg base fa0 1 "_law_draw" 2 (feedF g__law_draw) := ok__law_draw F3 (PySem.W.mg_of X G a3) b3  m_abs m_int m_len
  have b4 := F4.binds (ps := ["script"]) fun _ _ _ _ _ _ us hl => match us, hl with | [_], _ => rfl
  have o__law_feed : Fn l.prog w K mg base fa0 1 "_law_feed" 1 (pureF f__law_feed) := ok__law_feed F4 (PySem.W.mg_of X G a4) b4  m_list
  have b5 := F5.binds (ps := ["row"]) fun _ _ _ _ _ _ us hl => match us, hl with | [_], _ => rfl
  have o__law_runs : Fn l.prog w K mg base fa0 1 "_law_runs" 1 (pureF f__law_runs) := ok__law_runs F5 (PySem.W.mg_of X G a5) b5  m_int m_len m_range m_sorted
  have b6 := F6.binds (ps := ["p", "taps", "begun", "many"]) fun _ _ _ _ _ _ us hl => match us, hl with | [_, _, _, _], _ => rfl
  have o__law_register : Fn l.prog w K mg base fa0 1 "_law_register" 4 (pureF f__law_register) := ok__law_register F6 (PySem.W.mg_of X G a6) b6  m_int m_len m_list m_range m_sum
  have b7 := F7.binds (ps := ["p", "taps", "begun", "ticks"]) fun _ _ _ _ _ _ us hl => match us, hl with | [_, _, _, _], _ => rfl
  have o__law_shift : Fn l.prog w K mg base fa0 2 "_law_shift" 4 (pureF f__law_shift) := ok__law_shift F7 (PySem.W.mg_of X G a7) b7 (o__law_register.mono (by decide)) m_int m_len m_range
  have b8 := F8.binds (ps := ["p", "taps", "row"]) fun _ _ _ _ _ _ us hl => match us, hl with | [_, _, _], _ => rfl
  have o_next_number : Fn l.prog w K mg base fa0 1 "next_number" 3 (pureF f_next_number) := ok_next_number F8 (PySem.W.mg_of X G a8) b8  m_enumerate m_len m_sum
  have b9 := F9.binds (ps := ["p", "taps", "begun", "many"]) fun _ _ _ _ _ _ us hl => match us, hl with | [_, _, _, _], _ => rfl
  have o_register_row : Fn l.prog w K mg base fa0 2 "register_row" 4 (pureF f_register_row) := ok_register_row F9 (PySem.W.mg_of X G a9) b9 (o_next_number.mono (by decide)) m_len m_list
  have b10 := F10.binds (ps := ["p", "taps", "state"]) fun _ _ _ _ _ _ us hl => match us, hl with | [_, _, _], _ => rfl
  have o_next_state : Fn l.prog w K mg base fa0 2 "next_state" 3 (pureF f_next_state) := ok_next_state F10 (PySem.W.mg_of X G a10) b10 (o_next_number.mono (by decide)) m_list
  have b11 := F11.binds (ps := ["p", "taps", "state"]) fun _ _ _ _ _ _ us hl => match us, hl with | [_, _, _], _ => rfl
  have o_round_from : Fn l.prog w K mg base fa0 3 "round_from" 3 (pureF f_round_from) := ok_round_from F11 (PySem.W.mg_of X G a11) b11 (o_next_state.mono (by decide)) 
  have b12 := F12.binds (ps := ["p", "taps", "begun", "ticks"]) fun _ _ _ _ _ _ us hl => match us, hl with | [_, _, _, _], _ => rfl
  have o_shift_and_add : Fn l.prog w K mg base fa0 4 "shift_and_add" 4 (pureF f_shift_and_add) := ok_shift_and_add F12 (PySem.W.mg_of X G a12) b12 (o_register_row.mono (by decide)) (o_round_from.mono (by decide)) m_len m_range m_tuple
  have b13 := F13.binds (ps := ["feed", "p"]) fun _ _ _ _ _ _ us hl => match us, hl with | [_, _], _ => rfl
  have o__law_shifted : Fn l.prog w K mg base fa0 7 "_law_shifted" 2 (feedF g__law_shifted) := ok__law_shifted F13 (PySem.W.mg_of X G a13) b13 (o__law_alike.mono (by decide)) (o__law_draw.mono (by decide)) (o__law_register.mono (by decide)) (o__law_shift.mono (by decide)) (o_register_row.mono (by decide)) (o_shift_and_add.mono (by decide)) m_int m_list m_range
  have b14 := F14.binds (ps := ["row", "step"]) fun _ _ _ _ _ _ us hl => match us, hl with | [_, _], _ => rfl
  have o__law_thinned : Fn l.prog w K mg base fa0 1 "_law_thinned" 2 (pureF f__law_thinned) := ok__law_thinned F14 (PySem.W.mg_of X G a14) b14  m_int m_len m_range
  have b15 := F15.binds (ps := ["row", "other"]) fun _ _ _ _ _ _ us hl => match us, hl with | [_, _], _ => rfl
  have o_agreements : Fn l.prog w K mg base fa0 1 "agreements" 2 (pureF f_agreements) := ok_agreements F15 (PySem.W.mg_of X G a15) b15  m_len m_range
  have b16 := F16.binds (ps := ["row"]) fun _ _ _ _ _ _ us hl => match us, hl with | [_], _ => rfl
  have o_runs_of : Fn l.prog w K mg base fa0 1 "runs_of" 1 (pureF f_runs_of) := ok_runs_of F16 (PySem.W.mg_of X G a16) b16  m_len m_range m_set m_sorted m_zip
  have b17 := F17.binds (ps := ["one", "other"]) fun _ _ _ _ _ _ us hl => match us, hl with | [_, _], _ => rfl
  have o_greatest_common : Fn l.prog w K mg base fa0 1 "greatest_common" 2 (pureF f_greatest_common) := ok_greatest_common F17 (PySem.W.mg_of X G a17) b17  
  have b18 := F18.binds (ps := ["row", "step"]) fun _ _ _ _ _ _ us hl => match us, hl with | [_, _], _ => rfl
  have o_thinned : Fn l.prog w K mg base fa0 2 "thinned" 2 (pureF f_thinned) := ok_thinned F18 (PySem.W.mg_of X G a18) b18 (o_greatest_common.mono (by decide)) m_len m_range
  exact (ok_law F19 (o__law_agreements.mono (by decide)) (o__law_alike.mono (by decide)) (o__law_draw.mono (by decide)) (o__law_feed.mono (by decide)) (o__law_runs.mono (by decide)) (o__law_shifted.mono (by decide)) (o__law_thinned.mono (by decide)) (o_agreements.mono (by decide)) (o_runs_of.mono (by decide)) (o_thinned.mono (by decide)) m_list m_range).ok
end LK
open PySem PySem.W PyProof.Rows
set_option maxHeartbeats 0 in
theorem PySem.Challenge.cw_latewords_k68_rows_taken_round_holds : PySem.Challenge.rw_latewords_k68_rows_taken_round.Holds := by
  w_on; o_law; k_head; (case hw => w_witness2)
  k_fill
  refine L2.walk_of (l := PySem.Challenge.rw_latewords_k68_rows_taken_round) (n := 63) (k := 8) (x := "script") (CX := fun _ => L2.CX0) (sp := fun w => LK.spLaw _) rfl (by decide) rfl ⟨rfl, by decide, by decide⟩ (fun w h Y => PySem.W.kIn_of Y) ?F (fun _ _ a ns hl _ hS => LK.law_sp hS) (fun _ _ _ _ _ h => h)
  case F =>
    intro w mg fa h KX G hmg
    refine' LK.all_mk KX G hmg ?a1 ?l1 ?c1 ?k1 ?a2 ?l2 ?c2 ?k2 ?a3 ?l3 ?c3 ?k3 ?a4 ?l4 ?c4 ?k4 ?a5 ?l5 ?c5 ?k5 ?a6 ?l6 ?c6 ?k6 ?a7 ?l7 ?c7 ?k7 ?a8 ?l8 ?c8 ?k8 ?a9 ?l9 ?c9 ?k9 ?a10 ?l10 ?c10 ?k10 ?a11 ?l11 ?c11 ?k11 ?a12 ?l12 ?c12 ?k12 ?a13 ?l13 ?c13 ?k13 ?a14 ?l14 ?c14 ?k14 ?a15 ?l15 ?c15 ?k15 ?a16 ?l16 ?c16 ?k16 ?a17 ?l17 ?c17 ?k17 ?a18 ?l18 ?c18 ?k18 ?a19 ?l19 ?c19 ?k19 ?z_abs ?z_bool ?z_enumerate ?z_int ?z_isinstance ?z_len ?z_list ?z_range ?z_set ?z_sorted ?z_str ?z_sum ?z_tuple ?z_zip
    (case a1 => k_is); (case l1 => k_is); (case c1 => k_is); (case k1 => k_is); (case a2 => k_is); (case l2 => k_is); (case c2 => k_is); (case k2 => k_is); (case a3 => k_is); (case l3 => k_is); (case c3 => k_is); (case k3 => k_is); (case a4 => k_is); (case l4 => k_is); (case c4 => k_is); (case k4 => k_is); (case a5 => k_is); (case l5 => k_is); (case c5 => k_is); (case k5 => k_is); (case a6 => k_is); (case l6 => k_is); (case c6 => k_is); (case k6 => k_is); (case a7 => k_is); (case l7 => k_is); (case c7 => k_is); (case k7 => k_is); (case a8 => k_is); (case l8 => k_is); (case c8 => k_is); (case k8 => k_is); (case a9 => k_is); (case l9 => k_is); (case c9 => k_is); (case k9 => k_is); (case a10 => k_is); (case l10 => k_is); (case c10 => k_is); (case k10 => k_is); (case a11 => k_is); (case l11 => k_is); (case c11 => k_is); (case k11 => k_is); (case a12 => k_is); (case l12 => k_is); (case c12 => k_is); (case k12 => k_is); (case a13 => k_is); (case l13 => k_is); (case c13 => k_is); (case k13 => k_is); (case a14 => k_is); (case l14 => k_is); (case c14 => k_is); (case k14 => k_is); (case a15 => k_is); (case l15 => k_is); (case c15 => k_is); (case k15 => k_is); (case a16 => k_is); (case l16 => k_is); (case c16 => k_is); (case k16 => k_is); (case a17 => k_is); (case l17 => k_is); (case c17 => k_is); (case k17 => k_is); (case a18 => k_is); (case l18 => k_is); (case c18 => k_is); (case k18 => k_is); (case a19 => k_is); (case l19 => k_is); (case c19 => k_is); (case k19 => k_is); (case z_abs => k_is); (case z_bool => k_is); (case z_enumerate => k_is); (case z_int => k_is); (case z_isinstance => k_is); (case z_len => k_is); (case z_list => k_is); (case z_range => k_is); (case z_set => k_is); (case z_sorted => k_is); (case z_str => k_is); (case z_sum => k_is); (case z_tuple => k_is); (case z_zip => k_is)
