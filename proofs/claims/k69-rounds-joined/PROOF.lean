import PyProof.Rows.All
import Wide.All
import OpenK.AllK
import Wide.FinOn
import HandS.ForMost
import HandS.EndBits
import HandS.Wide
import HandS.WideMore
import HandS.TupAny
import HandS.TupMul
import HandS.Conv
import HandS.Deep
import HandS.DictTup
import HandS.SortOrd
import HandS.IsInst
import HandS.TupLe
import HandS.Codes
import HandS.Zip
import HandS.RevRange
import HandS.SortInts
import HandS.SetFor
import HandS.SortRule
import HandS.Strs
import HandS.TupSets
import PySem.Challenge.RW_latewords_k69_whole_rounds_joined
set_option Elab.async false
set_option linter.all false
set_option maxRecDepth 100000
/-! trees of plain values, and what stands for them in the abstract heap -/
namespace LW
open PySem PySem.Spec PyProof.Rows L2

inductive T where
  | non | bl (b : Bool) | int (i : Int) | str (x : Str) | lst (xs : List T) | tup (xs : List T) | lkl (xs : List T) | fn (k : Nat) | dic (lk : Bool) (ks : List Key) (xs : List T)
  deriving Inhabited

mutual
inductive Rep (K : PySem.W.Frag) (fa : Nat → Addr) (G : Hp) : V → T → Prop
  | non : Rep K fa G .non .non
  | bl (b : Bool) : Rep K fa G (.bl b) (.bl b)
  | int (i : Int) : Rep K fa G (.int i) (.int i)
  | str (x : Str) : Rep K fa G (.str x) (.str x)
  | lst {a : Addr} {vs : List V} {ts : List T} : G a = some (.lst vs) → RepAll K fa G vs ts → Rep K fa G (.ref a) (.lst ts)
  | tup {a : Addr} {vs : List V} {ts : List T} : G a = some (.tup vs) → RepAll K fa G vs ts → Rep K fa G (.ref a) (.tup ts)
  | lkl {a : Addr} {vs : List V} {ts : List T} : SqL K G a vs → RepAll K fa G vs ts → Rep K fa G (.ref a) (.lkl ts)
  | fn (k : Nat) : Rep K fa G (.ref (fa k)) (.fn k)
  | dic {lk : Bool} {a : Addr} {vs : List (Key × V)} {ks : List Key} {ts : List T} : Rd G a (.dK vs) → (lk = true → ∃ o, G a = some (.frz o (.dK vs))) → vs.map (·.1) = ks → RepAll K fa G (vs.map (·.2)) ts → Rep K fa G (.ref a) (.dic lk ks ts)
inductive RepAll (K : PySem.W.Frag) (fa : Nat → Addr) (G : Hp) : List V → List T → Prop
  | nil : RepAll K fa G [] []
  | cons {v : V} {vs : List V} {t : T} {ts : List T} : Rep K fa G v t → RepAll K fa G vs ts → RepAll K fa G (v :: vs) (t :: ts)
end

theorem same_sqT {K : PySem.W.Frag} {H H' : Hp} {a : Addr} {xs : List V} (e : Same H H') (h : SqT K H a xs) : SqT K H' a xs := by
  rcases h with (h | ⟨o, h⟩) | h
  · exact .inl (.inl (e _ _ h))
  · exact .inl (.inr ⟨o, e _ _ h⟩)
  · exact .inr h

section
variable {K : PySem.W.Frag} {fa : Nat → Addr} {G G' H H' : Hp}
mutual
theorem Rep.mono (s : Same G G') : ∀ {t : T} {v : V}, Rep K fa G v t → Rep K fa G' v t
  | .non, _, h => by cases h; exact .non
  | .bl b, _, h => by cases h; exact .bl b
  | .int i, _, h => by cases h; exact .int i
  | .str x, _, h => by cases h; exact .str x
  | .lst ts, _, h => by
    cases h with
    | lst e r => exact .lst (s _ _ e) (RepAll.mono s r)
  | .tup ts, _, h => by
    cases h with
    | tup e r => exact .tup (s _ _ e) (RepAll.mono s r)
  | .lkl ts, _, h => by
    cases h with
    | lkl e r => exact .lkl (s.seq e) (RepAll.mono s r)
  | .fn k, _, h => by cases h; exact .fn k
  | .dic lk ks ts, _, h => by
    cases h with
    | dic e f q r => exact .dic (e.elim (fun e => .inl (s _ _ e)) fun ⟨o, e⟩ => .inr ⟨o, s _ _ e⟩) (fun z => let ⟨o, e⟩ := f z; ⟨o, s _ _ e⟩) q (RepAll.mono s r)
theorem RepAll.mono (s : Same G G') : ∀ {ts : List T} {vs : List V}, RepAll K fa G vs ts → RepAll K fa G' vs ts
  | [], _, h => by cases h; exact .nil
  | t :: ts, _, h => by
    cases h with
    | cons a b => exact .cons (Rep.mono s a) (RepAll.mono s b)
end
theorem RepAll.length : ∀ {ts : List T} {vs : List V}, RepAll K fa G vs ts → vs.length = ts.length
  | [], _, h => by cases h; rfl
  | t :: ts, _, h => by
    cases h with
    | cons a b => simp [RepAll.length b]
theorem RepAll.get : ∀ {ts : List T} {vs : List V} {i : Nat} {t : T}, RepAll K fa G vs ts → ts[i]? = some t → ∃ v, vs[i]? = some v ∧ Rep K fa G v t
  | [], _, _, _, h, e => by simp at e
  | t :: ts, _, 0, _, h, e => by
    cases h with
    | cons a b => simp at e; subst e; exact ⟨_, by simp, a⟩
  | t :: ts, _, i + 1, _, h, e => by
    cases h with
    | cons a b =>
      obtain ⟨v, h1, h2⟩ := RepAll.get (i := i) b (by simpa using e)
      exact ⟨v, by simpa using h1, h2⟩
theorem RepAll.append : ∀ {ts us : List T} {vs ws : List V}, RepAll K fa G vs ts → RepAll K fa G ws us → RepAll K fa G (vs ++ ws) (ts ++ us)
  | [], _, _, _, h, g => by cases h; exact g
  | t :: ts, _, _, _, h, g => by
    cases h with
    | cons a b => exact .cons a (RepAll.append b g)
theorem RepAll.one {v : V} {t : T} (h : Rep K fa G v t) : RepAll K fa G [v] [t] := .cons h .nil
theorem RepAll.take : ∀ {ts : List T} {vs : List V} (n : Nat), RepAll K fa G vs ts → RepAll K fa G (vs.take n) (ts.take n)
  | _, _, 0, _ => by simpa using RepAll.nil
  | [], _, n + 1, h => by cases h; exact .nil
  | t :: ts, _, n + 1, h => by
    cases h with
    | cons a b => exact .cons a (RepAll.take n b)
theorem RepAll.drop : ∀ {ts : List T} {vs : List V} (n : Nat), RepAll K fa G vs ts → RepAll K fa G (vs.drop n) (ts.drop n)
  | _, _, 0, h => h
  | [], _, n + 1, h => by cases h; exact .nil
  | t :: ts, _, n + 1, h => by
    cases h with
    | cons a b => exact RepAll.drop n b
theorem RepAll.set : ∀ {ts : List T} {vs : List V} {v : V} {t : T} (n : Nat), RepAll K fa G vs ts → Rep K fa G v t → RepAll K fa G (vs.set n v) (ts.set n t)
  | [], _, _, _, _, h, _ => by cases h; exact .nil
  | t :: ts, _, _, _, 0, h, g => by
    cases h with
    | cons a b => exact .cons g b
  | t :: ts, _, _, _, n + 1, h, g => by
    cases h with
    | cons a b => exact .cons a (RepAll.set n b g)
theorem RepAll.dropLast {ts : List T} {vs : List V} (h : RepAll K fa G vs ts) : RepAll K fa G vs.dropLast ts.dropLast := by
  rw [List.dropLast_eq_take, List.dropLast_eq_take, h.length]
  exact h.take _
theorem RepAll.rev {ts : List T} {vs : List V} (h : RepAll K fa G vs ts) : RepAll K fa G vs.reverse ts.reverse := by
  induction ts generalizing vs with
  | nil => cases h; exact .nil
  | cons t ts ih =>
    cases h with
    | cons a b => rw [List.reverse_cons, List.reverse_cons]; exact (ih b).append (.one a)
theorem RepAll.of_get : ∀ {ts : List T} {vs : List V}, vs.length = ts.length → (∀ (i : Nat) (v : V) (t : T), vs[i]? = some v → ts[i]? = some t → Rep K fa G v t) → RepAll K fa G vs ts
  | [], [], _, _ => .nil
  | t :: ts, v :: vs, hl, h => .cons (h 0 v t rfl rfl) (RepAll.of_get (by simpa using hl) fun i v' t' a b => h (i + 1) v' t' (by simpa using a) (by simpa using b))
  | [], _ :: _, hl, _ => by simp at hl
  | _ :: _, [], hl, _ => by simp at hl
theorem RepAll.flatten_rep {ts : List T} {vs : List V} (h : RepAll K fa G vs ts) : ∀ n : Nat, RepAll K fa G (List.replicate n vs).flatten (List.replicate n ts).flatten
  | 0 => .nil
  | n + 1 => by rw [List.replicate_succ, List.replicate_succ, List.flatten_cons, List.flatten_cons]; exact h.append (RepAll.flatten_rep h n)
theorem RepAll.ints : ∀ {vs : List V} {ns : List Int}, RepAll K fa G vs (ns.map T.int) → vs = ns.map V.int
  | _, [], h => by cases h; rfl
  | _, n :: ns, h => by
    cases h with
    | cons a b => cases a; rw [RepAll.ints b]; rfl
theorem RepAll.of_ints : ∀ (ns : List Int), RepAll K fa G (ns.map V.int) (ns.map T.int)
  | [] => .nil
  | n :: ns => .cons (.int n) (RepAll.of_ints ns)
theorem RepAll.bls : ∀ {vs : List V} {ns : List Bool}, RepAll K fa G vs (ns.map T.bl) → vs = ns.map V.bl
  | _, [], h => by cases h; rfl
  | _, n :: ns, h => by
    cases h with
    | cons a b => cases a; rw [RepAll.bls b]; rfl
theorem RepAll.strs : ∀ {vs : List V} {ns : List Str}, RepAll K fa G vs (ns.map T.str) → vs = ns.map V.str
  | _, [], h => by cases h; rfl
  | _, n :: ns, h => by
    cases h with
    | cons a b => cases a; rw [RepAll.strs b]; rfl
end

/-! ### what a slot holds -/
/-- the content of an object that one slot alone knows -/
inductive OC where
  | lst (xs : List T) | dK (ks : List (Key × T)) | dT (ks : List (List Key × T))
inductive L where
  | un | t (x : T) | own (c : OC) | ref (i : Nat)
abbrev REnv := List L

section
variable (K : PySem.W.Frag) (fa : Nat → Addr)
def ORep (G : Hp) : HO → OC → Prop
  | .lst vs, .lst ts => RepAll K fa G vs ts
  | .dK vs, .dK ts => Paired (fun p q => p.1 = q.1 ∧ Rep K fa G p.2 q.2) vs ts
  | .dT vs, .dT ts => Paired (fun p q => p.1 = q.1 ∧ Rep K fa G p.2 q.2) vs ts
  | _, _ => False
/-- the addresses of the objects that slots own -/
def Cl (σ : L2.St) (ρ : REnv) (a : Addr) : Prop := ∃ (i : Nat) (c : OC), ρ[i]? = some (L.own c) ∧ σ[i]? = some (some (V.ref a))
structure EnvOk (G H : Hp) (σ : L2.St) (ρ : REnv) : Prop where
  same : Same G H
  len : ρ.length = σ.length
  t : ∀ (i : Nat) (x : T), ρ[i]? = some (L.t x) → ∃ v, σ[i]? = some (some v) ∧ Rep K fa G v x
  own : ∀ (i : Nat) (c : OC), ρ[i]? = some (L.own c) → ∃ a o, σ[i]? = some (some (V.ref a)) ∧ G a = none ∧ H a = some o ∧ ORep K fa G o c
  inj : ∀ (i j : Nat) (c c' : OC) (a : Addr), ρ[i]? = some (L.own c) → ρ[j]? = some (L.own c') → σ[i]? = some (some (V.ref a)) → σ[j]? = some (some (V.ref a)) → i = j
def LRep (G H : Hp) (C : Addr → Prop) (σ : L2.St) : V → L → Prop
  | _, .un => False
  | v, .t x => Rep K fa G v x
  | v, .own c => ∃ a o, v = .ref a ∧ G a = none ∧ ¬ C a ∧ H a = some o ∧ ORep K fa G o c
  | v, .ref i => σ[i]? = some (some v)
end
/-- a result that is an object of its own is new -/
def NewL (H : Hp) (v : V) : L → Prop
  | .own _ => ∀ a, v = .ref a → H a = none
  | _ => True
structure Aft (C C' : Addr → Prop) (G H G' H' : Hp) : Prop where
  gg : Same G G'
  keep : ∀ a o, H a = some o → ¬ C a → H' a = some o
  gn : ∀ a o, H a = some o → ¬ C a → G a = none → G' a = none
  there : ∀ a, H' a = none → H a = none
  cs : ∀ a, C' a → C a ∨ H a = none
theorem Aft.refl {C : Addr → Prop} {G H : Hp} : Aft C C G H G H := ⟨Same.refl _, fun _ _ h _ => h, fun _ _ _ _ h => h, fun _ h => h, fun _ h => .inl h⟩
theorem Aft.trans {C C1 C2 : Addr → Prop} {G H G1 H1 G2 H2 : Hp} (a : Aft C C1 G H G1 H1) (b : Aft C1 C2 G1 H1 G2 H2) : Aft C C2 G H G2 H2 := by
  have nc : ∀ p o, H p = some o → ¬ C p → ¬ C1 p := fun p o e n c => by
    rcases a.cs p c with z | z
    · exact n z
    · rw [e] at z; cases z
  refine ⟨a.gg.trans b.gg, fun p o e n => b.keep p o (a.keep p o e n) (nc p o e n), fun p o e n g => b.gn p o (a.keep p o e n) (nc p o e n) (a.gn p o e n g), fun p h => a.there p (b.there p h), fun p c => ?_⟩
  rcases b.cs p c with z | z
  · exact a.cs p z
  · exact .inr (a.there p z)
theorem Aft.ne {C C' : Addr → Prop} {G H G' H' : Hp} (a : Aft C C' G H G' H') {p : Addr} {o : HO} (e : H p = some o) (n : ¬ C p) : ¬ C' p := fun c => by
  rcases a.cs p c with z | z
  · exact n z
  · rw [e] at z; cases z

section
variable {K : PySem.W.Frag} {fa : Nat → Addr} {G G' H H' : Hp} {σ : L2.St} {ρ ρ' : REnv} {C C' : Addr → Prop}
theorem ORep.mono (s : Same G G') : ∀ {o : HO} {c : OC}, ORep K fa G o c → ORep K fa G' o c := by
  intro o c h
  cases o <;> cases c <;> first
    | exact (show False from h).elim
    | exact RepAll.mono s h
    | exact Paired.mapP h fun _ _ q => ⟨q.1, q.2.mono s⟩
theorem LRep.aft {v : V} {l : L} (h : LRep K fa G H C σ v l) (a : Aft C C' G H G' H') : LRep K fa G' H' C' σ v l := by
  cases l with
  | un => exact h
  | t x => exact Rep.mono a.gg h
  | own c =>
    obtain ⟨p, o, e, g, n, hh, r⟩ := h
    exact ⟨p, o, e, a.gn p o hh n g, a.ne hh n, a.keep p o hh n, r.mono a.gg⟩
  | ref i => exact h
theorem NewL.aft {v : V} {l : L} (h : NewL H' v l) (a : Aft C C' G H G' H') : NewL H v l := by
  cases l with
  | own c => exact fun p e => a.there p (h p e)
  | _ => trivial
theorem NewL.t {v : V} {x : T} : NewL H v (.t x) := trivial
/-- a new list becomes a tree: the frozen part grows by it -/
theorem frz {G0 H0 : Hp} {C0 : Addr → Prop} {v : V} {ts : List T} (E : EnvOk K fa G H σ ρ) (h : LRep K fa G H (Cl σ ρ) σ v (.own (.lst ts))) (nw : NewL H0 v (.own (.lst ts))) (a : Aft C0 (Cl σ ρ) G0 H0 G H) :
    ∃ G', EnvOk K fa G' H σ ρ ∧ Rep K fa G' v (.lst ts) ∧ Aft C0 (Cl σ ρ) G0 H0 G' H ∧ Same G G' ∧ ∀ b, v ≠ .ref b → G' b = G b := by
  obtain ⟨p, o, rfl, g, n, hh, r⟩ := h
  cases o with
  | lst vs =>
    have r : RepAll K fa G vs ts := r
    have sm : Same G (upd G p (.lst vs)) := fun b u e => by rw [upd_ne (ne_of_none e g)]; exact e
    refine ⟨upd G p (.lst vs), ⟨fun b u e => ?_, E.len, fun i x e => ?_, fun i c e => ?_, E.inj⟩, .lst upd_same (r.mono sm), ⟨a.gg.trans sm, a.keep, fun b u e nc gb => ?_, a.there, a.cs⟩, sm, fun b hb => ?_⟩
    · by_cases hb : b = p
      · subst hb; rw [upd_same] at e; cases e; exact hh
      · rw [upd_ne hb] at e; exact E.same b u e
    · obtain ⟨v, e1, e2⟩ := E.t i x e
      exact ⟨v, e1, e2.mono sm⟩
    · obtain ⟨q, u, e1, e2, e3, e4⟩ := E.own i c e
      refine ⟨q, u, e1, ?_, e3, e4.mono sm⟩
      rw [upd_ne (show q ≠ p from fun z => n (z ▸ ⟨i, c, e, e1⟩))]
      exact e2
    · have hb : b ≠ p := fun z => by subst z; rw [nw b rfl] at e; cases e
      rw [upd_ne hb]
      exact a.gn b u e nc gb
    · rw [upd_ne (fun z => hb (by rw [z]))]
  | _ => exact (show False from r).elim
end
/-- a result as a tree -/
def L.tree : L → Option T
  | .t x => some x
  | .own (.lst xs) => some (.lst xs)
  | _ => none
section
variable {K : PySem.W.Frag} {fa : Nat → Addr} {G G' H H' : Hp} {σ : L2.St} {ρ ρ' : REnv} {C C' : Addr → Prop}
theorem toTree {G0 H0 : Hp} {C0 : Addr → Prop} {v : V} {l : L} {x : T} (E : EnvOk K fa G H σ ρ) (h : LRep K fa G H (Cl σ ρ) σ v l) (nw : NewL H0 v l) (a : Aft C0 (Cl σ ρ) G0 H0 G H) (e : l.tree = some x) :
    ∃ G', EnvOk K fa G' H σ ρ ∧ Rep K fa G' v x ∧ Aft C0 (Cl σ ρ) G0 H0 G' H ∧ Same G G' ∧ ∀ b, (v ≠ .ref b ∨ ∃ y, l = .t y) → G' b = G b := by
  cases l with
  | t y => cases e; exact ⟨G, E, h, a, Same.refl _, fun _ _ => rfl⟩
  | own c =>
    cases c with
    | lst ts =>
      cases e
      obtain ⟨G', h1, h2, h3, h4, h5⟩ := frz E h nw a
      exact ⟨G', h1, h2, h3, h4, fun b hb => hb.elim (h5 b) fun ⟨y, z⟩ => by cases z⟩
    | _ => cases e
  | _ => cases e
/-- what a list operand holds -/
def L.lview (ρ : REnv) : L → Option (List T)
  | .t (.lst xs) => some xs
  | .own (.lst xs) => some xs
  | .ref i => match ρ[i]? with
    | some (.own (.lst xs)) => some xs
    | _ => none
  | _ => none
theorem lview_ok {v : V} {l : L} {xs : List T} (E : EnvOk K fa G H σ ρ) (h : LRep K fa G H C σ v l) (e : l.lview ρ = some xs) : ∃ a vs, v = .ref a ∧ H a = some (.lst vs) ∧ RepAll K fa G vs xs := by
  cases l with
  | un => cases e
  | t y =>
    cases y with
    | lst ys =>
      cases e
      cases (show Rep K fa G v _ from h) with
      | lst g r => exact ⟨_, _, rfl, E.same _ _ g, r⟩
    | _ => cases e
  | own c =>
    cases c with
    | lst ys =>
      cases e
      obtain ⟨p, o, rfl, g, n, hh, r⟩ := h
      cases o with
      | lst vs => exact ⟨p, vs, rfl, hh, r⟩
      | _ => exact (show False from r).elim
    | _ => cases e
  | ref i =>
    cases q : ρ[i]? with
    | none => simp only [L.lview, q] at e; cases e
    | some m =>
      simp only [L.lview, q] at e
      cases m with
      | own c =>
        cases c with
        | lst ys =>
          cases e
          obtain ⟨a, o, e1, e2, e3, e4⟩ := E.own i _ q
          have e5 : σ[i]? = some (some v) := h
          rw [e1] at e5; cases e5
          cases o with
          | lst vs => exact ⟨a, vs, rfl, e3, e4⟩
          | _ => exact (show False from e4).elim
        | _ => cases e
      | _ => cases e
/-- a result looked at as a tree, over the heap itself -/
def L.view (ρ : REnv) : L → Option T
  | .t x => some x
  | .own (.lst xs) => some (.lst xs)
  | .ref i => match ρ[i]? with
    | some (.own (.lst xs)) => some (.lst xs)
    | _ => none
  | _ => none
theorem view_ok {v : V} {l : L} {x : T} (E : EnvOk K fa G H σ ρ) (h : LRep K fa G H C σ v l) (e : l.view ρ = some x) : Rep K fa H v x := by
  cases l with
  | un => cases e
  | t y => cases e; exact Rep.mono E.same h
  | own c =>
    cases c with
    | lst ys =>
      cases e
      obtain ⟨a, vs, rfl, h1, h2⟩ := lview_ok (xs := ys) E h rfl
      exact .lst h1 (h2.mono E.same)
    | _ => cases e
  | ref i =>
    cases q : ρ[i]? with
    | none => simp only [L.view, q] at e; cases e
    | some m =>
      simp only [L.view, q] at e
      cases m with
      | own c =>
        cases c with
        | lst ys =>
          cases e
          obtain ⟨a, vs, rfl, h1, h2⟩ := lview_ok (xs := ys) E h (by simp only [L.lview, q])
          exact .lst h1 (h2.mono E.same)
        | _ => cases e
      | _ => cases e
end

/-! ### an expression's meaning -/
abbrev Den := REnv → Option (L × REnv)
/-- what is known behind an expression -/
structure Post (K : PySem.W.Frag) (fa : Nat → Addr) (G H : Hp) (σ : L2.St) (ρ : REnv) (l : L) (ρ' : REnv) (v : V) (G' H' : Hp) : Prop where
  aft : Aft (Cl σ ρ) (Cl σ ρ') G H G' H'
  env : EnvOk K fa G' H' σ ρ'
  rep : LRep K fa G' H' (Cl σ ρ') σ v l
  new : NewL H v l
def SE (X : Cx) (fa : Nat → Addr) (e : Expr) (d : Den) : Prop :=
  ∃ t : TE, PE X e t ∧ ∀ (σ : L2.St) (G H : Hp) (ρ : REnv) (l : L) (ρ' : REnv) (Q : VK), EnvOk X.K fa G H σ ρ → d ρ = some (l, ρ') →
    (∀ v G' H', Post X.K fa G H σ ρ l ρ' v G' H' → Q v H') → t σ H Q
end LW
namespace LW
open PySem PySem.Spec PyProof.Rows L2

/-! ### from a start -/
structure At (K : PySem.W.Frag) (fa : Nat → Addr) (C0 : Addr → Prop) (G0 H0 G H : Hp) (σ : L2.St) (ρ : REnv) : Prop where
  env : EnvOk K fa G H σ ρ
  aft : Aft C0 (Cl σ ρ) G0 H0 G H
section
variable {K : PySem.W.Frag} {fa : Nat → Addr} {C0 : Addr → Prop} {G0 H0 G H G' H' : Hp} {σ : L2.St} {ρ ρ' : REnv}
theorem At.start (E : EnvOk K fa G H σ ρ) : At K fa (Cl σ ρ) G H G H σ ρ := ⟨E, Aft.refl⟩
theorem At.noCl (A : At K fa C0 G0 H0 G H σ ρ) {p : Addr} (h : H p = none) : ¬ Cl σ ρ p := fun ⟨i, c, e1, e2⟩ => by
  obtain ⟨a, o, f1, f2, f3, f4⟩ := A.env.own i c e1
  rw [e2] at f1; cases f1
  rw [h] at f3; cases f3
theorem At.gnone (A : At K fa C0 G0 H0 G H σ ρ) {p : Addr} (h : H p = none) : G p = none := A.env.same.free h
theorem At.alloc (A : At K fa C0 G0 H0 G H σ ρ) {p : Addr} {o : HO} (h : H p = none) : At K fa C0 G0 H0 G (upd H p o) σ ρ := by
  have sm : Same H (upd H p o) := fun b u e => by rw [upd_ne (ne_of_none e h)]; exact e
  have nc := A.noCl h
  refine ⟨⟨A.env.same.trans sm, A.env.len, A.env.t, fun i c e => ?_, A.env.inj⟩, ⟨A.aft.gg, fun b u e n => sm _ _ (A.aft.keep b u e n), A.aft.gn, fun b e => ?_, A.aft.cs⟩⟩
  · obtain ⟨a, u, e1, e2, e3, e4⟩ := A.env.own i c e
    exact ⟨a, u, e1, e2, sm _ _ e3, e4⟩
  · by_cases hb : b = p
    · subst hb; rw [upd_same] at e; cases e
    · rw [upd_ne hb] at e; exact A.aft.there b e
theorem At.frz (A : At K fa C0 G0 H0 G H σ ρ) {p : Addr} {o : HO} (h : H p = some o) (g : G p = none) (n : ¬ Cl σ ρ p) (nw : H0 p = none) : At K fa C0 G0 H0 (upd G p o) H σ ρ := by
  have sm : Same G (upd G p o) := fun b u e => by rw [upd_ne (ne_of_none e g)]; exact e
  refine ⟨⟨fun b u e => ?_, A.env.len, fun i x e => ?_, fun i c e => ?_, A.env.inj⟩, ⟨A.aft.gg.trans sm, A.aft.keep, fun b u e nc gb => ?_, A.aft.there, A.aft.cs⟩⟩
  · by_cases hb : b = p
    · subst hb; rw [upd_same] at e; cases e; exact h
    · rw [upd_ne hb] at e; exact A.env.same b u e
  · obtain ⟨v, e1, e2⟩ := A.env.t i x e
    exact ⟨v, e1, e2.mono sm⟩
  · obtain ⟨q, u, e1, e2, e3, e4⟩ := A.env.own i c e
    refine ⟨q, u, e1, ?_, e3, e4.mono sm⟩
    rw [upd_ne (show q ≠ p from fun z => n (z ▸ ⟨i, c, e, e1⟩))]
    exact e2
  · rw [upd_ne (show b ≠ p from fun z => by subst z; rw [nw] at e; cases e)]
    exact A.aft.gn b u e nc gb
/-- a new tuple -/
theorem At.newTup (A : At K fa C0 G0 H0 G H σ ρ) {p : Addr} {vs : List V} {ts : List T} (h : H p = none) (r : RepAll K fa G vs ts) :
    At K fa C0 G0 H0 (upd G p (.tup vs)) (upd H p (.tup vs)) σ ρ ∧ Rep K fa (upd G p (.tup vs)) (.ref p) (.tup ts) := by
  have g := A.gnone h
  have sm : Same G (upd G p (.tup vs)) := fun b u e => by rw [upd_ne (ne_of_none e g)]; exact e
  exact ⟨(A.alloc h).frz upd_same g (A.noCl h) (A.aft.there p h), .tup upd_same (r.mono sm)⟩
/-- a new list -/
theorem At.newOwn (A : At K fa C0 G0 H0 G H σ ρ) {p : Addr} {o : HO} {c : OC} (h : H p = none) (r : ORep K fa G o c) :
    At K fa C0 G0 H0 G (upd H p o) σ ρ ∧ LRep K fa G (upd H p o) (Cl σ ρ) σ (.ref p) (.own c) ∧ NewL H0 (.ref p) (.own c) :=
  ⟨A.alloc h, ⟨p, o, rfl, A.gnone h, A.noCl h, upd_same, r⟩, fun a e => by cases e; exact A.aft.there p h⟩
theorem At.newLst (A : At K fa C0 G0 H0 G H σ ρ) {p : Addr} {vs : List V} {ts : List T} (h : H p = none) (r : RepAll K fa G vs ts) :
    At K fa C0 G0 H0 G (upd H p (.lst vs)) σ ρ ∧ LRep K fa G (upd H p (.lst vs)) (Cl σ ρ) σ (.ref p) (.own (.lst ts)) ∧ NewL H0 (.ref p) (.own (.lst ts)) := A.newOwn (c := .lst ts) h r
end

/-- two operands at hand -/
structure Ops2 (K : PySem.W.Frag) (fa : Nat → Addr) (C0 : Addr → Prop) (G0 H0 G H : Hp) (σ : L2.St) (ρ : REnv) (v1 : V) (l1 : L) (v2 : V) (l2 : L) : Prop extends At K fa C0 G0 H0 G H σ ρ where
  r1 : LRep K fa G H (Cl σ ρ) σ v1 l1
  n1 : NewL H0 v1 l1
  r2 : LRep K fa G H (Cl σ ρ) σ v2 l2
  n2 : NewL H0 v2 l2
structure Ops1 (K : PySem.W.Frag) (fa : Nat → Addr) (C0 : Addr → Prop) (G0 H0 G H : Hp) (σ : L2.St) (ρ : REnv) (v1 : V) (l1 : L) : Prop extends At K fa C0 G0 H0 G H σ ρ where
  r1 : LRep K fa G H (Cl σ ρ) σ v1 l1
  n1 : NewL H0 v1 l1
/-- what a rule for two operands has to give -/
def OpT (K : PySem.W.Frag) (fa : Nat → Addr) (r : R2) (g : REnv → L → L → Option L) : Prop :=
  ∀ (C0 : Addr → Prop) (G0 H0 G H : Hp) (σ : L2.St) (ρ : REnv) (v1 v2 : V) (l1 l2 l : L) (Q : VK), Ops2 K fa C0 G0 H0 G H σ ρ v1 l1 v2 l2 → g ρ l1 l2 = some l →
    (∀ v G' H', Ops1 K fa C0 G0 H0 G' H' σ ρ v l → Q v H') → r v1 v2 H Q
def UnT (K : PySem.W.Frag) (fa : Nat → Addr) (r : V → Hp → VK → Prop) (g : REnv → L → Option L) : Prop :=
  ∀ (C0 : Addr → Prop) (G0 H0 G H : Hp) (σ : L2.St) (ρ : REnv) (v1 : V) (l1 l : L) (Q : VK), Ops1 K fa C0 G0 H0 G H σ ρ v1 l1 → g ρ l1 = some l →
    (∀ v G' H', Ops1 K fa C0 G0 H0 G' H' σ ρ v l → Q v H') → r v1 H Q

def den1 (g : REnv → L → Option L) (d : Den) : Den := fun ρ => (d ρ).bind fun p => (g p.2 p.1).map fun l => (l, p.2)
def den2 (g : REnv → L → L → Option L) (d1 d2 : Den) : Den := fun ρ => (d1 ρ).bind fun p => (d2 p.2).bind fun q => (g q.2 p.1 q.1).map fun l => (l, q.2)

section
variable {X : Cx} {fa : Nat → Addr} {e a b c : Expr} {d d1 d2 : Den}
theorem Post.ops1 {K : PySem.W.Frag} {G H G' H' : Hp} {σ : L2.St} {ρ ρ' : REnv} {l : L} {v : V} (p : Post K fa G H σ ρ l ρ' v G' H') : Ops1 K fa (Cl σ ρ) G H G' H' σ ρ' v l := ⟨⟨p.env, p.aft⟩, p.rep, p.new⟩
theorem Ops1.post {K : PySem.W.Frag} {G H G' H' : Hp} {σ : L2.St} {ρ ρ' : REnv} {l : L} {v : V} (p : Ops1 K fa (Cl σ ρ) G H G' H' σ ρ' v l) : Post K fa G H σ ρ l ρ' v G' H' := ⟨p.aft, p.env, p.r1, p.n1⟩
/-- a second expression behind a first one -/
theorem Post.then2 {K : PySem.W.Frag} {G H G1 H1 G2 H2 : Hp} {σ : L2.St} {ρ ρ1 ρ2 : REnv} {l1 l2 : L} {v1 v2 : V} (p : Post K fa G H σ ρ l1 ρ1 v1 G1 H1) (q : Post K fa G1 H1 σ ρ1 l2 ρ2 v2 G2 H2) :
    Ops2 K fa (Cl σ ρ) G H G2 H2 σ ρ2 v1 l1 v2 l2 := ⟨⟨q.env, p.aft.trans q.aft⟩, p.rep.aft q.aft, p.new, q.rep, q.new.aft p.aft⟩
theorem SE.un {r : V → Hp → VK → Prop} {g : REnv → L → Option L} (h1 : SE X fa a d) (hp : ∀ ta, PE X a ta → PE X e (tUn r ta)) (ho : UnT X.K fa r g) : SE X fa e (den1 g d) := by
  obtain ⟨ta, pa, ra⟩ := h1
  refine ⟨_, hp ta pa, fun σ G H ρ l ρ' Q E hd k => ?_⟩
  cases q : d ρ with
  | none => simp [den1, q] at hd
  | some p =>
    cases q2 : g p.2 p.1 with
    | none => simp [den1, q, q2] at hd
    | some l' =>
      simp [den1, q, q2] at hd
      obtain ⟨rfl, rfl⟩ := hd
      refine ra σ G H ρ p.1 p.2 _ E q fun v1 G1 H1 P1 => ?_
      exact ho _ _ _ _ _ _ _ _ _ _ _ P1.ops1 q2 fun v G' H' R => k v G' H' R.post
theorem SE.two {r : R2} {g : REnv → L → L → Option L} (h1 : SE X fa a d1) (h2 : SE X fa b d2) (hp : ∀ ta tb, PE X a ta → PE X b tb → PE X e (tOp r ta tb)) (ho : OpT X.K fa r g) : SE X fa e (den2 g d1 d2) := by
  obtain ⟨ta, pa, ra⟩ := h1
  obtain ⟨tb, pb, rb⟩ := h2
  refine ⟨_, hp ta tb pa pb, fun σ G H ρ l ρ' Q E hd k => ?_⟩
  cases q : d1 ρ with
  | none => simp [den2, q] at hd
  | some p =>
    cases q1 : d2 p.2 with
    | none => simp [den2, q, q1] at hd
    | some p' =>
      cases q2 : g p'.2 p.1 p'.1 with
      | none => simp [den2, q, q1, q2] at hd
      | some l' =>
        simp [den2, q, q1, q2] at hd
        obtain ⟨rfl, rfl⟩ := hd
        refine ra σ G H ρ p.1 p.2 _ E q fun v1 G1 H1 P1 => ?_
        refine rb σ G1 H1 p.2 p'.1 p'.2 _ P1.env q1 fun v2 G2 H2 P2 => ?_
        exact ho _ _ _ _ _ _ _ _ _ _ _ _ _ (P1.then2 P2) q2 fun v G' H' R => k v G' H' R.post
end

/-! ### scalars handed back -/
section
variable {K : PySem.W.Frag} {fa : Nat → Addr} {C0 : Addr → Prop} {G0 H0 G H : Hp} {σ : L2.St} {ρ : REnv}
theorem At.int (A : At K fa C0 G0 H0 G H σ ρ) (i : Int) : Ops1 K fa C0 G0 H0 G H σ ρ (.int i) (.t (.int i)) := ⟨A, Rep.int i, trivial⟩
theorem At.bl (A : At K fa C0 G0 H0 G H σ ρ) (i : Bool) : Ops1 K fa C0 G0 H0 G H σ ρ (.bl i) (.t (.bl i)) := ⟨A, Rep.bl i, trivial⟩
theorem At.str (A : At K fa C0 G0 H0 G H σ ρ) (i : Str) : Ops1 K fa C0 G0 H0 G H σ ρ (.str i) (.t (.str i)) := ⟨A, Rep.str i, trivial⟩
theorem At.non (A : At K fa C0 G0 H0 G H σ ρ) : Ops1 K fa C0 G0 H0 G H σ ρ .non (.t .non) := ⟨A, Rep.non, trivial⟩
theorem At.tr (A : At K fa C0 G0 H0 G H σ ρ) {v : V} {x : T} (r : Rep K fa G v x) : Ops1 K fa C0 G0 H0 G H σ ρ v (.t x) := ⟨A, r, trivial⟩
theorem At.lstR (A : At K fa C0 G0 H0 G H σ ρ) {p : Addr} {vs : List V} {ts : List T} (h : H p = none) (r : RepAll K fa G vs ts) : Ops1 K fa C0 G0 H0 G (upd H p (.lst vs)) σ ρ (.ref p) (.own (.lst ts)) :=
  let ⟨a, b, c⟩ := A.newLst h r; ⟨a, b, c⟩
theorem At.tupR (A : At K fa C0 G0 H0 G H σ ρ) {p : Addr} {vs : List V} {ts : List T} (h : H p = none) (r : RepAll K fa G vs ts) : Ops1 K fa C0 G0 H0 (upd G p (.tup vs)) (upd H p (.tup vs)) σ ρ (.ref p) (.t (.tup ts)) :=
  let ⟨a, b⟩ := A.newTup h r; ⟨a, b, trivial⟩
end
theorem Rep.int_inv {K : PySem.W.Frag} {fa : Nat → Addr} {G : Hp} {v : V} {i : Int} (h : Rep K fa G v (.int i)) : v = .int i := by cases h; rfl
theorem Rep.bl_inv {K : PySem.W.Frag} {fa : Nat → Addr} {G : Hp} {v : V} {i : Bool} (h : Rep K fa G v (.bl i)) : v = .bl i := by cases h; rfl
theorem Rep.str_inv {K : PySem.W.Frag} {fa : Nat → Addr} {G : Hp} {v : V} {i : Str} (h : Rep K fa G v (.str i)) : v = .str i := by cases h; rfl
theorem Rep.non_inv {K : PySem.W.Frag} {fa : Nat → Addr} {G : Hp} {v : V} (h : Rep K fa G v .non) : v = .non := by cases h; rfl

/-! ### + -/
def line : Nat := 16777216
theorem line_eq : line = sizeLine := sizeLine_eq.symm
def gCat (ρ : REnv) (l1 l2 : L) : Option L :=
  match l1.lview ρ, l2.lview ρ with
  | some xs, some ys => if xs.length + ys.length ≤ line then some (.own (.lst (xs ++ ys))) else none
  | _, _ => none
def gAdd (ρ : REnv) (l1 l2 : L) : Option L :=
  match l1, l2 with
  | .t (.int i), .t (.int j) => some (.t (.int (i + j)))
  | .t (.str i), .t (.str j) => if i.length + j.length ≤ line then some (.t (.str (i ++ j))) else none
  | .t (.tup xs), .t (.tup ys) => if xs.length + ys.length ≤ line then some (.t (.tup (xs ++ ys))) else none
  | _, _ => gCat ρ l1 l2
def rAddT (K : PySem.W.Frag) : R2 := fun x y H Q => (rI0 (fun i j => .int (i + j)) x y H Q ∨ (∃ i j, x = .str i ∧ y = .str j ∧ i.length + j.length ≤ sizeLine ∧ Q (.str (i ++ j)) H)) ∨ (rCat x y H Q ∨ rCatA K x y H Q)
theorem op_addT {X : Cx} : OpR X (binaryOp .Add) (rAddT X.K) := (op_add.or op_add_str).or (op_cat.or op_catA)
section
variable {K : PySem.W.Frag} {fa : Nat → Addr}
theorem gCat_ok {C0 : Addr → Prop} {G0 H0 G H : Hp} {σ : L2.St} {ρ : REnv} {v1 v2 : V} {l1 l2 l : L} {Q : VK} (O : Ops2 K fa C0 G0 H0 G H σ ρ v1 l1 v2 l2) (e : gCat ρ l1 l2 = some l)
    (k : ∀ v G' H', Ops1 K fa C0 G0 H0 G' H' σ ρ v l → Q v H') : rCat v1 v2 H Q := by
  unfold gCat at e
  split at e
  · rename_i xs ys e1 e2
    split at e
    · rename_i hz
      cases e
      obtain ⟨p, vs, rfl, hp, rp⟩ := lview_ok O.env O.r1 e1
      obtain ⟨q, ws, rfl, hq, rq⟩ := lview_ok O.env O.r2 e2
      refine ⟨p, q, vs, ws, rfl, rfl, hp, hq, by rw [rp.length, rq.length, ← line_eq]; exact hz, fun a na => ?_⟩
      exact k _ _ _ (O.toAt.lstR na (rp.append rq))
    · cases e
  · cases e
theorem opt_add : OpT K fa (rAddT K) gAdd := by
  intro C0 G0 H0 G H σ ρ v1 v2 l1 l2 l Q O e k
  unfold gAdd at e
  split at e
  · cases e
    have e1 := Rep.int_inv O.r1
    have e2 := Rep.int_inv O.r2
    exact .inl (.inl ⟨_, _, e1, e2, k _ _ _ (O.toAt.int _)⟩)
  · split at e
    · rename_i hz
      cases e
      have e1 := Rep.str_inv O.r1
      have e2 := Rep.str_inv O.r2
      exact .inl (.inr ⟨_, _, e1, e2, by rw [← line_eq]; exact hz, k _ _ _ (O.toAt.str _)⟩)
    · cases e
  · split at e
    · rename_i xs ys hz
      cases e
      refine .inr (.inr ?_)
      have h1 := O.r1
      have h2 := O.r2
      cases (show Rep K fa G v1 _ from h1) with
      | tup s1 a1 =>
        cases (show Rep K fa G v2 _ from h2) with
        | tup s2 a2 =>
          rename_i a vs b ws
          refine ⟨a, b, vs, ws, rfl, rfl, same_sqT O.env.same (.of s1), same_sqT O.env.same (.of s2), by rw [a1.length, a2.length, ← line_eq]; exact hz, fun hx => ?_, fun _ hy => ?_, fun _ _ p hp => ?_⟩
          · have : xs = [] := by
              have := a1.length
              rw [hx] at this
              exact List.length_eq_zero_iff.mp this.symm
            subst this
            exact k _ _ _ (O.toAt.tr (.tup s2 a2))
          · have : ys = [] := by
              have := a2.length
              rw [hy] at this
              exact List.length_eq_zero_iff.mp this.symm
            subst this
            rw [List.append_nil] at k
            exact k _ _ _ (O.toAt.tr (.tup s1 a1))
          · exact k _ _ _ (O.toAt.tupR hp (a1.append a2))
    · cases e
  · exact .inr (.inl (gCat_ok O e k))
end
theorem SE.add {X : Cx} {fa : Nat → Addr} {a b : Expr} {d1 d2 : Den} {pos : Pos} (h1 : SE X fa a d1) (h2 : SE X fa b d2) : SE X fa (.BinOp a .Add b pos) (den2 gAdd d1 d2) :=
  h1.two h2 (fun _ _ pa pb => pe_op op_addT pa pb) opt_add

/-! ### -, *, //, %, ** -/
def gSub (_ : REnv) (l1 l2 : L) : Option L :=
  match l1, l2 with
  | .t (.int i), .t (.int j) => some (.t (.int (i - j)))
  | _, _ => none
theorem opt_sub {K : PySem.W.Frag} {fa : Nat → Addr} : OpT K fa (rI0 fun i j => .int (i - j)) gSub := by
  intro C0 G0 H0 G H σ ρ v1 v2 l1 l2 l Q O e k
  unfold gSub at e
  split at e
  · cases e
    exact ⟨_, _, Rep.int_inv O.r1, Rep.int_inv O.r2, k _ _ _ (O.toAt.int _)⟩
  · cases e
theorem SE.sub {X : Cx} {fa : Nat → Addr} {a b : Expr} {d1 d2 : Den} {pos : Pos} (h1 : SE X fa a d1) (h2 : SE X fa b d2) : SE X fa (.BinOp a .Sub b pos) (den2 gSub d1 d2) :=
  h1.two h2 (fun _ _ pa pb => pe_op op_sub pa pb) opt_sub

def mulOk (i j : Int) : Bool := (decide (-(18446744073709551616) < i) && decide (i < 18446744073709551616)) || (decide (-(18446744073709551616) < j) && decide (j < 18446744073709551616)) || decide (i.natAbs.log2 + j.natAbs.log2 < 1000000)
theorem mulOk_spec {i j : Int} (h : mulOk i j = true) : CMul i j ∨ CMulW i j := by
  simp only [mulOk, Bool.or_eq_true, Bool.and_eq_true, decide_eq_true_eq] at h
  rcases h with (h | h) | h
  · exact .inl (.inl ⟨by omega, by omega⟩)
  · exact .inl (.inr ⟨by omega, by omega⟩)
  · exact .inr h
def gMul (ρ : REnv) (l1 l2 : L) : Option L :=
  match l1, l2 with
  | .t (.int i), .t (.int j) => if mulOk i j then some (.t (.int (i * j))) else none
  | _, .t (.int k) => match l1.lview ρ with
    | some xs => if decide (-(9223372036854775808) ≤ k) && decide (k < 9223372036854775808) && decide (xs.length * k.toNat ≤ line) then some (.own (.lst (List.replicate k.toNat xs).flatten)) else none
    | none => none
  | _, _ => none
def rMulT : R2 := fun x y H Q => (rI CMul (fun i j => .int (i * j)) x y H Q ∨ rI CMulW (fun i j => .int (i * j)) x y H Q) ∨ rRep x y H Q
theorem op_mulT {X : Cx} : OpR X (binaryOp .Mult) rMulT := (op_mul.or op_mulW).or op_rep
theorem opt_mul {K : PySem.W.Frag} {fa : Nat → Addr} : OpT K fa rMulT gMul := by
  intro C0 G0 H0 G H σ ρ v1 v2 l1 l2 l Q O e k
  unfold gMul at e
  split at e
  · split at e
    · rename_i hm
      cases e
      refine .inl ?_
      rcases mulOk_spec hm with hm | hm
      · exact .inl ⟨_, _, Rep.int_inv O.r1, Rep.int_inv O.r2, hm, k _ _ _ (O.toAt.int _)⟩
      · exact .inr ⟨_, _, Rep.int_inv O.r1, Rep.int_inv O.r2, hm, k _ _ _ (O.toAt.int _)⟩
    · cases e
  · split at e
    · rename_i xs e1
      split at e
      · rename_i hz
        cases e
        simp only [Bool.and_eq_true, decide_eq_true_eq] at hz
        obtain ⟨p, vs, rfl, hp, rp⟩ := lview_ok O.env O.r1 e1
        refine .inr ⟨p, _, vs, rfl, Rep.int_inv O.r2, hp, by omega, by omega, by rw [rp.length, ← line_eq]; exact hz.2, fun a na => ?_⟩
        exact k _ _ _ (O.toAt.lstR na (rp.flatten_rep _))
      · cases e
    · cases e
  · cases e
theorem SE.mul {X : Cx} {fa : Nat → Addr} {a b : Expr} {d1 d2 : Den} {pos : Pos} (h1 : SE X fa a d1) (h2 : SE X fa b d2) : SE X fa (.BinOp a .Mult b pos) (den2 gMul d1 d2) :=
  h1.two h2 (fun _ _ pa pb => pe_op op_mulT pa pb) opt_mul

def gMod (_ : REnv) (l1 l2 : L) : Option L :=
  match l1, l2 with
  | .t (.int i), .t (.int j) => if 0 < j then some (.t (.int (i % j))) else none
  | _, _ => none
theorem opt_mod {K : PySem.W.Frag} {fa : Nat → Addr} : OpT K fa (rI (fun _ j => 0 < j) fun i j => .int (i % j)) gMod := by
  intro C0 G0 H0 G H σ ρ v1 v2 l1 l2 l Q O e k
  unfold gMod at e
  split at e
  · split at e
    · rename_i h
      cases e
      exact ⟨_, _, Rep.int_inv O.r1, Rep.int_inv O.r2, h, k _ _ _ (O.toAt.int _)⟩
    · cases e
  · cases e
theorem SE.mod {X : Cx} {fa : Nat → Addr} {a b : Expr} {d1 d2 : Den} {pos : Pos} (h1 : SE X fa a d1) (h2 : SE X fa b d2) : SE X fa (.BinOp a .Mod b pos) (den2 gMod d1 d2) :=
  h1.two h2 (fun _ _ pa pb => pe_op op_mod pa pb) opt_mod

def gDiv (_ : REnv) (l1 l2 : L) : Option L :=
  match l1, l2 with
  | .t (.int i), .t (.int j) => if decide (0 < j) && decide (j < 1073741824) then some (.t (.int (i / j))) else none
  | _, _ => none
theorem opt_div {K : PySem.W.Frag} {fa : Nat → Addr} : OpT K fa (rI CDiv fun i j => .int (i / j)) gDiv := by
  intro C0 G0 H0 G H σ ρ v1 v2 l1 l2 l Q O e k
  unfold gDiv at e
  split at e
  · split at e
    · rename_i h
      cases e
      simp only [Bool.and_eq_true, decide_eq_true_eq] at h
      exact ⟨_, _, Rep.int_inv O.r1, Rep.int_inv O.r2, h, k _ _ _ (O.toAt.int _)⟩
    · cases e
  · cases e
theorem SE.div {X : Cx} {fa : Nat → Addr} {a b : Expr} {d1 d2 : Den} {pos : Pos} (h1 : SE X fa a d1) (h2 : SE X fa b d2) : SE X fa (.BinOp a .FloorDiv b pos) (den2 gDiv d1 d2) :=
  h1.two h2 (fun _ _ pa pb => pe_op op_fdiv pa pb) opt_div

def gPow (_ : REnv) (l1 l2 : L) : Option L :=
  match l1, l2 with
  | .t (.int i), .t (.int j) => if decide (0 ≤ j) && decide (j ≤ 1000000) && decide (i.natAbs < 18446744073709551616) then some (.t (.int (i ^ j.toNat))) else none
  | _, _ => none
theorem opt_pow {K : PySem.W.Frag} {fa : Nat → Addr} : OpT K fa (rI CPow fun i j => .int (i ^ j.toNat)) gPow := by
  intro C0 G0 H0 G H σ ρ v1 v2 l1 l2 l Q O e k
  unfold gPow at e
  split at e
  · split at e
    · rename_i h
      cases e
      simp only [Bool.and_eq_true, decide_eq_true_eq] at h
      exact ⟨_, _, Rep.int_inv O.r1, Rep.int_inv O.r2, ⟨h.1.1, h.1.2, by have := h.2; omega⟩, k _ _ _ (O.toAt.int _)⟩
    · cases e
  · cases e
theorem SE.pow {X : Cx} {fa : Nat → Addr} {a b : Expr} {d1 d2 : Den} {pos : Pos} (h1 : SE X fa a d1) (h2 : SE X fa b d2) : SE X fa (.BinOp a .Pow b pos) (den2 gPow d1 d2) :=
  h1.two h2 (fun _ _ pa pb => pe_op op_pow pa pb) opt_pow

def gNeg (_ : REnv) (l1 : L) : Option L :=
  match l1 with
  | .t (.int i) => some (.t (.int (-i)))
  | _ => none
theorem unt_neg {K : PySem.W.Frag} {fa : Nat → Addr} : UnT K fa (rU fun i => .int (-i)) gNeg := by
  intro C0 G0 H0 G H σ ρ v1 l1 l Q O e k
  unfold gNeg at e
  split at e
  · cases e
    exact ⟨_, Rep.int_inv O.r1, k _ _ _ (O.toAt.int _)⟩
  · cases e
theorem SE.neg {X : Cx} {fa : Nat → Addr} {a : Expr} {d1 : Den} {pos : Pos} (h1 : SE X fa a d1) : SE X fa (.UnaryOp .USub a pos) (den1 gNeg d1) :=
  h1.un (fun _ pa => pe_un un_neg pa) unt_neg
end LW
namespace LW
open PySem PySem.Spec PyProof.Rows L2

section
variable {X : Cx} {fa : Nat → Addr} {e a b c : Expr} {es : List Expr} {d d1 d2 d3 : Den} {pos : Pos}

/-! ### names, constants -/
/-- the value of a slot: a tree, or a slot's own object by its place -/
def gVar (i : Nat) : Den := fun ρ => match ρ[i]? with
  | some (.t x) => some (.t x, ρ)
  | some (.own _) => some (.ref i, ρ)
  | _ => none
theorem SE.var {i : Nat} {x : Str} (hN : X.N[i]? = some x) (hv : Vis X.env.scope x) (hd : (x == ("__debug__" : Str)) = false) (hcd : (x == ("__classdict__" : Str)) = false) : SE X fa (.Name x pos) (gVar i) := by
  refine ⟨_, pe_var hN hv hd hcd, fun σ G H ρ l ρ' Q E hd k => ?_⟩
  unfold gVar at hd
  split at hd
  · rename_i y q
    cases hd
    obtain ⟨v, e1, e2⟩ := E.t i y q
    exact ⟨v, e1, k v G H ⟨Aft.refl, E, e2, trivial⟩⟩
  · rename_i c q
    cases hd
    obtain ⟨a, o, e1, e2⟩ := E.own i c q
    exact ⟨_, e1, k _ G H ⟨Aft.refl, E, e1, trivial⟩⟩
  · cases hd
def gC (x : T) : Den := fun ρ => some (.t x, ρ)
theorem SE.const {v : V} {x : T} (hp : PE X e (tC v)) (hr : ∀ G, Rep X.K fa G v x) : SE X fa e (gC x) :=
  ⟨_, hp, fun σ G H ρ l ρ' Q E hd k => by cases hd; exact k v G H ⟨Aft.refl, E, hr G, trivial⟩⟩
theorem SE.int {i : Int} {j : Nat} : SE X fa (.Constant (.int i) j pos) (gC (.int i)) := .const pe_int fun _ => .int i
theorem SE.bl {i : Bool} {j : Nat} : SE X fa (.Constant (.bool i) j pos) (gC (.bl i)) := .const pe_bl fun _ => .bl i
theorem SE.non {j : Nat} : SE X fa (.Constant .none j pos) (gC .non) := .const pe_non fun _ => .non
theorem SE.str {x : Str} {j : Nat} : SE X fa (.Constant (.str x) j pos) (gC (.str x)) := .const pe_str fun _ => .str x
/-- a module's name -/
theorem SE.glob {x : Str} {v : V} {u : Value} {y : T} (hg : Gl X x) (hm : X.mg x = some u) (r : RelV v u) (hd : (x == ("__debug__" : Str)) = false) (hr : ∀ G, Rep X.K fa G v y) : SE X fa (.Name x pos) (gC y) := .const (pe_glob hg hm r hd) hr

/-! ### a or b by cases: if -/
def ST (X : Cx) (fa : Nat → Addr) (e : Expr) (d : REnv → Option (Bool × REnv)) : Prop :=
  ∃ t : TT, PT X e t ∧ ∀ (σ : L2.St) (G H : Hp) (ρ : REnv) (b : Bool) (ρ' : REnv) (Q : Bool → Hp → Prop), EnvOk X.K fa G H σ ρ → d ρ = some (b, ρ') →
    (∀ G' H', At X.K fa (Cl σ ρ) G H G' H' σ ρ' → Q b H') → t σ H Q
abbrev DenT := REnv → Option (Bool × REnv)
def L.asBl : L → Option Bool
  | .t (.bl b) => some b
  | _ => none
/-- a value's truth -/
def L.truth (ρ : REnv) (l : L) : Option Bool :=
  match l with
  | .t .non => some false
  | .t (.bl b) => some b
  | .t (.int i) => some (i != 0)
  | .t (.str y) => if y.length ≤ line then some ((y.length : Int) != 0) else none
  | .t (.tup xs) => some (!xs.isEmpty)
  | l => (l.lview ρ).map fun xs => !xs.isEmpty
theorem isEmpty_rep {K : PySem.W.Frag} {G : Hp} {vs : List V} {ts : List T} (h : RepAll K fa G vs ts) : vs.isEmpty = ts.isEmpty := by
  cases h <;> rfl
theorem truth_ok {K : PySem.W.Frag} {G H : Hp} {C : Addr → Prop} {σ : L2.St} {ρ : REnv} {v : V} {l : L} {b : Bool} (E : EnvOk K fa G H σ ρ) (r : LRep K fa G H C σ v l) (h : l.truth ρ = some b) : TruV K v H b := by
  unfold L.truth at h
  split at h
  · cases h; rw [Rep.non_inv r]; rfl
  · cases h; rw [Rep.bl_inv r]; rfl
  · cases h; rw [Rep.int_inv r]; rfl
  · split at h
    · rename_i y hz
      cases h; rw [Rep.str_inv r]; exact ⟨by rw [← line_eq]; exact hz, rfl⟩
    · cases h
  · cases h
    cases (show Rep K fa G v _ from r) with
    | tup s a => exact .inr (.inl ⟨_, same_sqT E.same (.of s), by rw [isEmpty_rep a]⟩)
  · cases q : l.lview ρ with
    | none => simp [q] at h
    | some xs =>
      simp [q] at h
      obtain ⟨p, vs, rfl, hp, rp⟩ := lview_ok E r q
      exact .inl ⟨vs, .of hp, by rw [isEmpty_rep rp, h, Bool.not_not]⟩
def dTru (d : Den) : DenT := fun ρ => (d ρ).bind fun p => (p.1.truth p.2).map fun b => (b, p.2)
theorem SE.truth (h : SE X fa a d) (he : ∀ whole, isTrue a X.env whole = (do let v ← whole; standAt a.pos; holding [v] (truthy v))) : ST X fa a (dTru d) := by
  obtain ⟨t, p, r⟩ := h
  refine ⟨_, pt_truth p he, fun σ G H ρ b ρ' Q E hd k => ?_⟩
  cases q : d ρ with
  | none => simp [dTru, q] at hd
  | some z =>
    cases q2 : z.1.truth z.2 with
    | none => simp [dTru, q, q2] at hd
    | some b' =>
      simp [dTru, q, q2] at hd
      obtain ⟨rfl, rfl⟩ := hd
      exact r σ G H ρ z.1 z.2 _ E q fun v G' H' P => ⟨_, truth_ok P.env P.rep q2, k G' H' ⟨P.env, P.aft⟩⟩
/-- an expression whose value is a bool, as a test by tTest -/
def dBl (d : Den) : DenT := fun ρ => (d ρ).bind fun p => p.1.asBl.map fun b => (b, p.2)
theorem asBl_inv {l : L} {b : Bool} (h : l.asBl = some b) : l = .t (.bl b) := by
  unfold L.asBl at h
  split at h
  · cases h; rfl
  · cases h
/-! ### comparisons -/
/-- two operands and a rule for a comparison: as a value and as a test; nothing changes -/
def CmT (K : PySem.W.Frag) (fa : Nat → Addr) (r : R2) (g : REnv → L → L → Option Bool) : Prop :=
  ∀ (C0 : Addr → Prop) (G0 H0 G H : Hp) (σ : L2.St) (ρ : REnv) (v1 v2 : V) (l1 l2 : L) (b : Bool) (Q : VK), Ops2 K fa C0 G0 H0 G H σ ρ v1 l1 v2 l2 → g ρ l1 l2 = some b → Q (.bl b) H → r v1 v2 H Q
structure CmpR (X : Cx) (fa : Nat → Addr) (op : CmpOp) (g : REnv → L → L → Option Bool) : Prop where
  ex : ∃ r : R2, OpR X (compareOp op) r ∧ CmT X.K fa r g
def gB (g : REnv → L → L → Option Bool) : REnv → L → L → Option L := fun ρ l1 l2 => (g ρ l1 l2).map fun b => .t (.bl b)
theorem CmT.opt {K : PySem.W.Frag} {r : R2} {g : REnv → L → L → Option Bool} (h : CmT K fa r g) : OpT K fa r (gB g) := by
  intro C0 G0 H0 G H σ ρ v1 v2 l1 l2 l Q O e k
  cases q : g ρ l1 l2 with
  | none => simp [gB, q] at e
  | some b =>
    simp [gB, q] at e
    subst e
    exact h _ _ _ _ _ _ _ _ _ _ _ _ _ O q (k _ _ _ (O.toAt.bl b))
theorem SE.cmp {op : CmpOp} {g : REnv → L → L → Option Bool} (h1 : SE X fa a d1) (h2 : SE X fa b d2) (hc : CmpR X fa op g) (hm : behindInMarks op b = false) : SE X fa (.Compare a [op] [b] pos) (den2 (gB g) d1 d2) := by
  obtain ⟨r, p, q⟩ := hc.ex
  exact h1.two h2 (fun _ _ pa pb => pe_cmpR p pa pb hm) q.opt
abbrev Rd1 (X : Cx) (fa : Nat → Addr) (t : TE) (d : Den) : Prop := ∀ (σ : L2.St) (G H : Hp) (ρ : REnv) (l : L) (ρ' : REnv) (Q : VK), EnvOk X.K fa G H σ ρ → d ρ = some (l, ρ') → (∀ v G' H', Post X.K fa G H σ ρ l ρ' v G' H' → Q v H') → t σ H Q
theorem two_read {t1 t2 : TE} {r : R2} {g : REnv → L → L → Option L} (ra : Rd1 X fa t1 d1) (rb : Rd1 X fa t2 d2) (ho : OpT X.K fa r g) : Rd1 X fa (tOp r t1 t2) (den2 g d1 d2) := by
  intro σ G H ρ l ρ' Q E hd k
  cases q : d1 ρ with
  | none => simp [den2, q] at hd
  | some p =>
    cases q1 : d2 p.2 with
    | none => simp [den2, q, q1] at hd
    | some p' =>
      cases q2 : g p'.2 p.1 p'.1 with
      | none => simp [den2, q, q1, q2] at hd
      | some l' =>
        simp [den2, q, q1, q2] at hd
        obtain ⟨rfl, rfl⟩ := hd
        refine ra σ G H ρ p.1 p.2 _ E q fun v1 G1 H1 P1 => ?_
        refine rb σ G1 H1 p.2 p'.1 p'.2 _ P1.env q1 fun v2 G2 H2 P2 => ?_
        exact ho _ _ _ _ _ _ _ _ _ _ _ _ _ (P1.then2 P2) q2 fun v G' H' R => k v G' H' R.post
theorem test_read {t : TE} (r : Rd1 X fa t d) : ∀ (σ : L2.St) (G H : Hp) (ρ : REnv) (b : Bool) (ρ' : REnv) (Q : Bool → Hp → Prop), EnvOk X.K fa G H σ ρ → dBl d ρ = some (b, ρ') →
    (∀ G' H', At X.K fa (Cl σ ρ) G H G' H' σ ρ' → Q b H') → tTest t σ H Q := by
  intro σ G H ρ b ρ' Q E hd k
  cases q : d ρ with
  | none => simp [dBl, q] at hd
  | some z =>
    cases q2 : z.1.asBl with
    | none => simp [dBl, q, q2] at hd
    | some b' =>
      simp [dBl, q, q2] at hd
      obtain ⟨rfl, rfl⟩ := hd
      refine r σ G H ρ z.1 z.2 _ E q fun v G' H' P => ?_
      have rp := P.rep
      rw [asBl_inv q2] at rp
      exact ⟨_, Rep.bl_inv rp, k G' H' ⟨P.env, P.aft⟩⟩
theorem ST.cmp {op : CmpOp} {g : REnv → L → L → Option Bool} (h1 : SE X fa a d1) (h2 : SE X fa b d2) (hc : CmpR X fa op g) (hm : behindInMarks op b = false) : ST X fa (.Compare a [op] [b] pos) (dBl (den2 (gB g) d1 d2)) := by
  obtain ⟨r, p, q⟩ := hc.ex
  obtain ⟨t1, p1, r1⟩ := id h1
  obtain ⟨t2, p2, r2⟩ := id h2
  exact ⟨_, pt_cmpR p p1 p2 hm, test_read (two_read r1 r2 q.opt)⟩
/-- a op1 b op2 c -/
def denC (g g' : REnv → L → L → Option Bool) (d1 d2 d3 : Den) : Den := fun ρ => (d1 ρ).bind fun p => (d2 p.2).bind fun q => (g q.2 p.1 q.1).bind fun k =>
  if k then (d3 q.2).bind fun z => (g' z.2 q.1 z.1).map fun l' => (.t (.bl l'), z.2) else some (.t (.bl false), q.2)
theorem chain_read {t1 t2 t3 : TE} {r r' : R2} {g g' : REnv → L → L → Option Bool} (ra : Rd1 X fa t1 d1) (rb : Rd1 X fa t2 d2) (rc : Rd1 X fa t3 d3) (ho : CmT X.K fa r g) (ho' : CmT X.K fa r' g') :
    Rd1 X fa (tChain r r' t1 t2 t3) (denC g g' d1 d2 d3) := by
  intro σ G H ρ l ρ' Q E hd k
  cases q : d1 ρ with
  | none => simp [denC, q] at hd
  | some p =>
    cases q1 : d2 p.2 with
    | none => simp [denC, q, q1] at hd
    | some p' =>
      cases q2 : g p'.2 p.1 p'.1 with
      | none => simp [denC, q, q1, q2] at hd
      | some b' =>
        refine ra σ G H ρ p.1 p.2 _ E q fun v1 G1 H1 P1 => ?_
        refine rb σ G1 H1 p.2 p'.1 p'.2 _ P1.env q1 fun v2 G2 H2 P2 => ?_
        have O := P1.then2 P2
        refine ho _ _ _ _ _ _ _ _ _ _ _ _ _ O q2 ⟨b', rfl, ?_⟩
        cases b' with
        | false =>
          simp [denC, q, q1, q2] at hd
          obtain ⟨rfl, rfl⟩ := hd
          exact iteF (k _ _ _ (O.toAt.bl false).post)
        | true =>
          simp [denC, q, q1, q2] at hd
          refine iteT ?_
          cases q4 : d3 p'.2 with
          | none => simp [q4] at hd
          | some z =>
            cases q5 : g' z.2 p'.1 z.1 with
            | none => simp [q4, q5] at hd
            | some lz =>
              simp [q4, q5] at hd
              obtain ⟨rfl, rfl⟩ := hd
              refine rc σ G2 H2 p'.2 z.1 z.2 _ O.env q4 fun v3 G3 H3 P3 => ?_
              have O3 : Ops2 X.K fa (Cl σ ρ) G H G3 H3 σ z.2 v2 p'.1 v3 z.1 := ⟨⟨P3.env, O.aft.trans P3.aft⟩, O.r2.aft P3.aft, O.n2, P3.rep, P3.new.aft O.aft⟩
              exact ho' _ _ _ _ _ _ _ _ _ _ _ _ _ O3 q5 (k _ _ _ (O3.toAt.bl lz).post)
theorem SE.chain {op op' : CmpOp} {g g' : REnv → L → L → Option Bool} (h1 : SE X fa a d1) (h2 : SE X fa b d2) (h3 : SE X fa c d3) (hc : CmpR X fa op g) (hc' : CmpR X fa op' g') (hm : lastMarks [op, op'] [b, c] = false) :
    SE X fa (.Compare a [op, op'] [b, c] pos) (denC g g' d1 d2 d3) := by
  obtain ⟨r, p, q⟩ := hc.ex
  obtain ⟨r', p', q'⟩ := hc'.ex
  obtain ⟨t1, p1, r1⟩ := h1
  obtain ⟨t2, p2, r2⟩ := h2
  obtain ⟨t3, p3, r3⟩ := h3
  exact ⟨_, pe_chain p p' p1 p2 p3 hm, chain_read r1 r2 r3 q q'⟩
theorem ST.chain {op op' : CmpOp} {g g' : REnv → L → L → Option Bool} (h1 : SE X fa a d1) (h2 : SE X fa b d2) (h3 : SE X fa c d3) (hc : CmpR X fa op g) (hc' : CmpR X fa op' g') (hm : lastMarks [op, op'] [b, c] = false) :
    ST X fa (.Compare a [op, op'] [b, c] pos) (dBl (denC g g' d1 d2 d3)) := by
  obtain ⟨r, p, q⟩ := hc.ex
  obtain ⟨r', p', q'⟩ := hc'.ex
  obtain ⟨t1, p1, r1⟩ := h1
  obtain ⟨t2, p2, r2⟩ := h2
  obtain ⟨t3, p3, r3⟩ := h3
  exact ⟨_, pt_chain p p' p1 p2 p3 hm, test_read (chain_read r1 r2 r3 q q')⟩
/-- not, and, or of tests -/
def dNot (d : DenT) : DenT := fun ρ => (d ρ).map fun p => (!p.1, p.2)
def dAnd (d d' : DenT) : DenT := fun ρ => (d ρ).bind fun p => if p.1 then d' p.2 else some (false, p.2)
def dOr (d d' : DenT) : DenT := fun ρ => (d ρ).bind fun p => if p.1 then some (true, p.2) else d' p.2
theorem ST.not {d : DenT} (h : ST X fa a d) : ST X fa (.UnaryOp .Not a pos) (dNot d) := by
  obtain ⟨t, p, r⟩ := h
  refine ⟨_, pt_not p, fun σ G H ρ b ρ' Q E hd k => ?_⟩
  cases q : d ρ with
  | none => simp [dNot, q] at hd
  | some z =>
    have hd : some (!z.1, z.2) = some (b, ρ') := by rw [← hd]; simp [dNot, q]
    cases hd
    exact r σ G H ρ z.1 z.2 _ E q fun G' H' A => k G' H' A
/-- a chain of and, of or: by its first part and the rest -/
def SW (X : Cx) (fa : Nat → Addr) (e : Expr) (d : DenT) : Prop :=
  ∃ t : TT, PW X e t ∧ ∀ (σ : L2.St) (G H : Hp) (ρ : REnv) (b : Bool) (ρ' : REnv) (Q : Bool → Hp → Prop), EnvOk X.K fa G H σ ρ → d ρ = some (b, ρ') →
    (∀ G' H', At X.K fa (Cl σ ρ) G H G' H' σ ρ' → Q b H') → t σ H Q
theorem SW.test {d : DenT} (h : SW X fa a d) : ST X fa a d := by
  obtain ⟨t, p, r⟩ := h
  exact ⟨t, p.pt, r⟩
theorem SW.and1 {d : DenT} (h : ST X fa a d) : SW X fa (.BoolOp .And [a] pos) d := by
  obtain ⟨t, p, r⟩ := h
  exact ⟨_, pw_and1 p, r⟩
theorem SW.or1 {d : DenT} (h : ST X fa a d) : SW X fa (.BoolOp .Or [a] pos) d := by
  obtain ⟨t, p, r⟩ := h
  exact ⟨_, pw_or1 p, r⟩
theorem SW.and {d d' : DenT} (h : ST X fa a d) (h' : SW X fa (.BoolOp .And (b :: es) pos) d') : SW X fa (.BoolOp .And (a :: b :: es) pos) (dAnd d d') := by
  obtain ⟨t, p, r⟩ := h
  obtain ⟨t', p', r'⟩ := h'
  refine ⟨_, pw_and p p', fun σ G H ρ k ρ' Q E hd kk => ?_⟩
  cases q : d ρ with
  | none => simp [dAnd, q] at hd
  | some z =>
    refine r σ G H ρ z.1 z.2 _ E q fun G1 H1 A1 => ?_
    cases q1 : z.1 with
    | false =>
      simp [dAnd, q, q1] at hd
      obtain ⟨rfl, rfl⟩ := hd
      exact iteF (kk _ _ A1)
    | true =>
      simp [dAnd, q, q1] at hd
      exact iteT (r' σ G1 H1 z.2 k ρ' _ A1.env hd fun G2 H2 A2 => kk _ _ ⟨A2.env, A1.aft.trans A2.aft⟩)
theorem SW.or {d d' : DenT} (h : ST X fa a d) (h' : SW X fa (.BoolOp .Or (b :: es) pos) d') : SW X fa (.BoolOp .Or (a :: b :: es) pos) (dOr d d') := by
  obtain ⟨t, p, r⟩ := h
  obtain ⟨t', p', r'⟩ := h'
  refine ⟨_, pw_or p p', fun σ G H ρ k ρ' Q E hd kk => ?_⟩
  cases q : d ρ with
  | none => simp [dOr, q] at hd
  | some z =>
    refine r σ G H ρ z.1 z.2 _ E q fun G1 H1 A1 => ?_
    cases q1 : z.1 with
    | true =>
      simp [dOr, q, q1] at hd
      obtain ⟨rfl, rfl⟩ := hd
      exact iteT (kk _ _ A1)
    | false =>
      simp [dOr, q, q1] at hd
      exact iteF (r' σ G1 H1 z.2 k ρ' _ A1.env hd fun G2 H2 A2 => kk _ _ ⟨A2.env, A1.aft.trans A2.aft⟩)
/-- .. as values (of bools) -/
def dNotV (d : Den) : Den := fun ρ => (d ρ).bind fun p => p.1.asBl.map fun b => (.t (.bl (!b)), p.2)
def dAndV (d d' : Den) : Den := fun ρ => (d ρ).bind fun p => p.1.asBl.bind fun b => if b then d' p.2 else some (.t (.bl false), p.2)
def dOrV (d d' : Den) : Den := fun ρ => (d ρ).bind fun p => p.1.asBl.bind fun b => if b then some (.t (.bl true), p.2) else d' p.2
theorem SE.one {op : BoolOp} (h : SE X fa a d) : SE X fa (.BoolOp op [a] pos) d := by
  obtain ⟨t, p, r⟩ := h
  exact ⟨t, pe_one p, r⟩
theorem SE.notV (h : SE X fa a d) : SE X fa (.UnaryOp .Not a pos) (dNotV d) := by
  obtain ⟨t, p, r⟩ := h
  refine ⟨_, pe_not p, fun σ G H ρ l ρ' Q E hd k => ?_⟩
  cases q : d ρ with
  | none => simp [dNotV, q] at hd
  | some z =>
    cases q2 : z.1.asBl with
    | none => simp [dNotV, q, q2] at hd
    | some b' =>
      simp [dNotV, q, q2] at hd
      obtain ⟨rfl, rfl⟩ := hd
      refine r σ G H ρ z.1 z.2 _ E q fun v G' H' P => ?_
      have rp := P.rep
      rw [asBl_inv q2] at rp
      exact ⟨_, Rep.bl_inv rp, k _ _ _ ((At.bl ⟨P.env, P.aft⟩ (!b')).post)⟩
theorem SE.andV (h : SE X fa a d) (h' : SE X fa (.BoolOp .And (b :: es) pos) d1) : SE X fa (.BoolOp .And (a :: b :: es) pos) (dAndV d d1) := by
  obtain ⟨t, p, r⟩ := h
  obtain ⟨t', p', r'⟩ := h'
  refine ⟨_, pe_and p p', fun σ G H ρ l ρ' Q E hd k => ?_⟩
  cases q : d ρ with
  | none => simp [dAndV, q] at hd
  | some z =>
    cases q2 : z.1.asBl with
    | none => simp [dAndV, q, q2] at hd
    | some b' =>
      refine r σ G H ρ z.1 z.2 _ E q fun v G1 H1 P => ?_
      have rp := P.rep
      rw [asBl_inv q2] at rp
      refine ⟨_, Rep.bl_inv rp, ?_⟩
      cases b' with
      | false =>
        simp [dAndV, q, q2] at hd
        obtain ⟨rfl, rfl⟩ := hd
        exact iteF (k _ _ _ ((At.bl ⟨P.env, P.aft⟩ false).post))
      | true =>
        simp [dAndV, q, q2] at hd
        exact iteT (r' σ G1 H1 z.2 l ρ' _ P.env hd fun v2 G2 H2 P2 => k _ _ _ ⟨P.aft.trans P2.aft, P2.env, P2.rep, P2.new.aft P.aft⟩)
theorem SE.orV (h : SE X fa a d) (h' : SE X fa (.BoolOp .Or (b :: es) pos) d1) : SE X fa (.BoolOp .Or (a :: b :: es) pos) (dOrV d d1) := by
  obtain ⟨t, p, r⟩ := h
  obtain ⟨t', p', r'⟩ := h'
  refine ⟨_, pe_or p p', fun σ G H ρ l ρ' Q E hd k => ?_⟩
  cases q : d ρ with
  | none => simp [dOrV, q] at hd
  | some z =>
    cases q2 : z.1.asBl with
    | none => simp [dOrV, q, q2] at hd
    | some b' =>
      refine r σ G H ρ z.1 z.2 _ E q fun v G1 H1 P => ?_
      have rp := P.rep
      rw [asBl_inv q2] at rp
      refine ⟨_, Rep.bl_inv rp, ?_⟩
      cases b' with
      | true =>
        simp [dOrV, q, q2] at hd
        obtain ⟨rfl, rfl⟩ := hd
        exact iteT (k _ _ _ ((At.bl ⟨P.env, P.aft⟩ true).post))
      | false =>
        simp [dOrV, q, q2] at hd
        exact iteF (r' σ G1 H1 z.2 l ρ' _ P.env hd fun v2 G2 H2 P2 => k _ _ _ ⟨P.aft.trans P2.aft, P2.env, P2.rep, P2.new.aft P.aft⟩)
def dIf (c : DenT) (d d' : Den) : Den := fun ρ => (c ρ).bind fun p => if p.1 then d p.2 else d' p.2
theorem SE.ite {dc : DenT} (hc : ST X fa c dc) (h : SE X fa a d) (h' : SE X fa b d1) : SE X fa (.IfExp c a b pos) (dIf dc d d1) := by
  obtain ⟨tc, pc, rc⟩ := hc
  obtain ⟨t, p, r⟩ := h
  obtain ⟨t', p', r'⟩ := h'
  refine ⟨_, pe_ifExp pc p p', fun σ G H ρ l ρ' Q E hd k => ?_⟩
  cases q : dc ρ with
  | none => simp [dIf, q] at hd
  | some z =>
    refine rc σ G H ρ z.1 z.2 _ E q fun G1 H1 A1 => ?_
    cases q1 : z.1 with
    | true =>
      simp [dIf, q, q1] at hd
      exact iteT (r σ G1 H1 z.2 l ρ' _ A1.env hd fun v2 G2 H2 P2 => k _ _ _ ⟨A1.aft.trans P2.aft, P2.env, P2.rep, P2.new.aft A1.aft⟩)
    | false =>
      simp [dIf, q, q1] at hd
      exact iteF (r' σ G1 H1 z.2 l ρ' _ A1.env hd fun v2 G2 H2 P2 => k _ _ _ ⟨A1.aft.trans P2.aft, P2.env, P2.rep, P2.new.aft A1.aft⟩)
end
end LW
namespace LW
open PySem PySem.Spec PyProof.Rows L2

/-! ### trees as the library's data -/
mutual
def T.py : T → PyData
  | .non => .none
  | .bl b => .bool b
  | .int i => .int i
  | .str x => .str x
  | .lst xs => .list (T.pys xs)
  | .tup xs => .tuple (T.pys xs)
  | .lkl xs => .list (T.pys xs)
  | .fn _ => .none
  | .dic _ _ _ => .none
def T.pys : List T → List PyData
  | [] => []
  | x :: xs => T.py x :: T.pys xs
end
mutual
/-- no def among it; every text's signs are signs -/
def T.cln : T → Bool
  | .non => true
  | .bl _ => true
  | .int _ => true
  | .str x => PyData.strOk x
  | .lst xs => T.clns xs
  | .tup xs => T.clns xs
  | .lkl xs => T.clns xs
  | .fn _ => false
  | .dic _ _ _ => false
def T.clns : List T → Bool
  | [] => true
  | x :: xs => T.cln x && T.clns xs
end
mutual
def T.dep : T → Nat
  | .lst xs => T.deps xs + 1
  | .tup xs => T.deps xs + 1
  | .lkl xs => T.deps xs + 1
  | _ => 0
def T.deps : List T → Nat
  | [] => 0
  | x :: xs => max (T.dep x) (T.deps xs)
end
mutual
theorem T.py_dep : ∀ x : T, x.py.depth = x.dep
  | .non => rfl
  | .bl _ => rfl
  | .int _ => rfl
  | .str _ => rfl
  | .lst xs => by simp only [T.py, PyData.depth, T.dep, T.pys_dep xs]
  | .tup xs => by simp only [T.py, PyData.depth, T.dep, T.pys_dep xs]
  | .lkl xs => by simp only [T.py, PyData.depth, T.dep, T.pys_dep xs]
  | .fn _ => rfl
  | .dic _ _ _ => rfl
theorem T.pys_dep : ∀ xs : List T, PyData.depthAll (T.pys xs) = T.deps xs
  | [] => rfl
  | x :: xs => by simp only [T.pys, PyData.depthAll, T.deps, T.py_dep x, T.pys_dep xs]
end
mutual
theorem T.py_lay : ∀ x : T, x.cln = true → x.py.canLay0 = true
  | .non, _ => rfl
  | .bl _, _ => rfl
  | .int _, _ => rfl
  | .str x, h => by simpa only [T.py, PyData.canLay0, T.cln] using h
  | .lst xs, h => by
    simp only [T.py, PyData.canLay0]
    exact T.pys_lay xs (by simpa only [T.cln] using h)
  | .tup xs, h => by
    simp only [T.py, PyData.canLay0]
    exact T.pys_lay xs (by simpa only [T.cln] using h)
  | .lkl xs, h => by
    simp only [T.py, PyData.canLay0]
    exact T.pys_lay xs (by simpa only [T.cln] using h)
  | .fn _, _ => rfl
  | .dic _ _ _, _ => rfl
theorem T.pys_lay : ∀ xs : List T, T.clns xs = true → PyData.canLayAll0 (T.pys xs) = true
  | [], _ => rfl
  | x :: xs, h => by
    simp only [T.clns, Bool.and_eq_true] at h
    simp only [T.pys, PyData.canLayAll0, T.py_lay x h.1, T.pys_lay xs h.2, Bool.and_self]
end
/-- what == takes -/
def T.shp (x : T) : Bool := x.cln && decide (x.dep ≤ 64)
theorem T.shaped {x : T} (h : x.shp = true) : SeqAt.shaped x.py = true := by
  simp only [T.shp, Bool.and_eq_true, decide_eq_true_eq] at h
  simp only [SeqAt.shaped, Bool.and_eq_true, decide_eq_true_eq]
  exact ⟨T.py_lay x h.1, by rw [T.py_dep]; exact h.2⟩
section
variable {K : PySem.W.Frag} {fa : Nat → Addr} {G H : Hp}
mutual
theorem Rep.dp : ∀ {x : T} {v : V}, x.cln = true → Rep K fa G v x → Dp K G v x.py
  | .non, _, _, h => by cases h; exact .non
  | .bl b, _, _, h => by cases h; exact .bl b
  | .int i, _, _, h => by cases h; exact .int i
  | .str y, _, _, h => by cases h; exact .str y
  | .lst xs, _, c, h => by
    cases h with
    | lst e r => exact .lst (.of e) (Rep.dps (by simpa only [T.cln] using c) r)
  | .tup xs, _, c, h => by
    cases h with
    | tup e r => exact .tup (.of e) (Rep.dps (by simpa only [T.cln] using c) r)
  | .lkl xs, _, c, h => by
    cases h with
    | lkl e r => exact .lst e (Rep.dps (by simpa only [T.cln] using c) r)
  | .fn k, _, c, _ => absurd c (by simp [T.cln])
  | .dic _ _ _, _, c, _ => absurd c (by simp [T.cln])
theorem Rep.dps : ∀ {xs : List T} {vs : List V}, T.clns xs = true → RepAll K fa G vs xs → DpAll K G vs (T.pys xs)
  | [], _, _, h => by cases h; exact .nil
  | x :: xs, _, c, h => by
    simp only [T.clns, Bool.and_eq_true] at c
    cases h with
    | cons a b => exact .cons (Rep.dp c.1 a) (Rep.dps c.2 b)
end
end
/-- Python's == -/
def T.eqv (x y : T) : Bool := PyData.eqv x.py y.py
/-- scalars that == takes apart whatever they are -/
def T.scal : T → T → Bool
  | .non, .non => true | .non, .int _ => true | .int _, .non => true | .non, .bl _ => true | .bl _, .non => true | .non, .str _ => true | .str _, .non => true
  | .int _, .int _ => true | .bl _, .bl _ => true | .str _, .str _ => true
  | .int _, .str _ => true | .str _, .int _ => true | .bl _, .str _ => true | .str _, .bl _ => true
  | _, _ => false
theorem scal_eq {K : PySem.W.Frag} {fa : Nat → Addr} {G : Hp} {v w : V} {x y : T} (h : T.scal x y = true) (r1 : Rep K fa G v x) (r2 : Rep K fa G w y) : L2.scal v w = true ∧ decide (v = w) = T.eqv x y := by
  cases x <;> cases y <;> first
    | (simp [T.scal] at h; done)
    | (cases r1; cases r2; refine ⟨rfl, ?_⟩; simp only [T.eqv, T.py, PyData.eqv]; first | rfl | exact dec_int | exact dec_bl | exact dec_str | (simp; done))
def eqOk (x y : T) : Bool := T.scal x y || (x.shp && y.shp)
def gEq (ρ : REnv) (l1 l2 : L) : Option Bool :=
  match l1.view ρ, l2.view ρ with
  | some x, some y => if eqOk x y then some (T.eqv x y) else none
  | _, _ => none
def gNe (ρ : REnv) (l1 l2 : L) : Option Bool := (gEq ρ l1 l2).map fun b => !b
section
variable {X : Cx} {fa : Nat → Addr}
theorem gEq_inv {K : PySem.W.Frag} {C0 : Addr → Prop} {G0 H0 G H : Hp} {σ : L2.St} {ρ : REnv} {v1 v2 : V} {l1 l2 : L} {b : Bool} (O : Ops2 K fa C0 G0 H0 G H σ ρ v1 l1 v2 l2) (e : gEq ρ l1 l2 = some b) :
    (L2.scal v1 v2 = true ∧ b = decide (v1 = v2)) ∨ ∃ d e, Dp K H v1 d ∧ Dp K H v2 e ∧ SeqAt.shaped d = true ∧ SeqAt.shaped e = true ∧ b = PyData.eqv d e := by
  unfold gEq at e
  split at e
  · rename_i x y e1 e2
    split at e
    · rename_i h
      cases e
      have r1 := view_ok O.env O.r1 e1
      have r2 := view_ok O.env O.r2 e2
      simp only [eqOk, Bool.or_eq_true, Bool.and_eq_true] at h
      rcases h with h | h
      · obtain ⟨h1, h2⟩ := scal_eq h r1 r2
        exact .inl ⟨h1, h2.symm⟩
      · have c1 : x.cln = true := by have := h.1; simp only [T.shp, Bool.and_eq_true] at this; exact this.1
        have c2 : y.cln = true := by have := h.2; simp only [T.shp, Bool.and_eq_true] at this; exact this.1
        exact .inr ⟨_, _, r1.dp c1, r2.dp c2, T.shaped h.1, T.shaped h.2, rfl⟩
    · cases e
  · cases e
theorem cmp_eq (hu : X.A.units + 64 < cLine) : CmpR X fa .Eq gEq := by
  refine ⟨_, op_eq.or (op_eqD hu), fun C0 G0 H0 G H σ ρ v1 v2 l1 l2 b Q O e q => ?_⟩
  rcases gEq_inv O e with ⟨h1, h2⟩ | ⟨d, e', h1, h2, h3, h4, h5⟩
  · subst h2; exact .inl ⟨h1, q⟩
  · subst h5; exact .inr ⟨d, e', h1, h2, h3, h4, q⟩
theorem cmp_ne (hu : X.A.units + 64 < cLine) : CmpR X fa .NotEq gNe := by
  refine ⟨_, op_ne.or (op_neD hu), fun C0 G0 H0 G H σ ρ v1 v2 l1 l2 b Q O e q => ?_⟩
  cases qe : gEq ρ l1 l2 with
  | none => simp [gNe, qe] at e
  | some b' =>
    have e : some (!b') = some b := by rw [← e]; simp [gNe, qe]
    cases e
    rcases gEq_inv O qe with ⟨h1, h2⟩ | ⟨d, e', h1, h2, h3, h4, h5⟩
    · subst h2; exact .inl ⟨h1, q⟩
    · subst h5; exact .inr ⟨d, e', h1, h2, h3, h4, q⟩
def gOrd (p : Int → Int → Bool) (_ : REnv) (l1 l2 : L) : Option Bool :=
  match l1, l2 with
  | .t (.int i), .t (.int j) => some (p i j)
  | _, _ => none
theorem cmp_ord {op : CmpOp} {p : Int → Int → Bool} (h : OpR X (compareOp op) (rI0 fun i j => .bl (p i j))) : CmpR X fa op (gOrd p) := by
  refine ⟨_, h, fun C0 G0 H0 G H σ ρ v1 v2 l1 l2 b Q O e q => ?_⟩
  unfold gOrd at e
  split at e
  · cases e
    exact ⟨_, _, Rep.int_inv O.r1, Rep.int_inv O.r2, q⟩
  · cases e
def gLt := gOrd fun i j => decide (i < j)
def gLe := gOrd fun i j => decide (i ≤ j)
def gGt := gOrd fun i j => decide (j < i)
def gGe := gOrd fun i j => decide (j ≤ i)
theorem cmp_lt : CmpR X fa .Lt gLt := cmp_ord op_lt
theorem cmp_le : CmpR X fa .LtE gLe := cmp_ord op_le
theorem cmp_gt : CmpR X fa .Gt gGt := cmp_ord op_gt
theorem cmp_ge : CmpR X fa .GtE gGe := cmp_ord op_ge
/-- is None, is a bool -/
def T.isNon : T → Bool
  | .non => true
  | _ => false
def gIs (ρ : REnv) (l1 l2 : L) : Option Bool :=
  match l2 with
  | .t .non => (l1.view ρ).map T.isNon
  | .t (.bl b) => l1.asBl.map fun a => a == b
  | _ => none
def gIsNot (ρ : REnv) (l1 l2 : L) : Option Bool := (gIs ρ l1 l2).map fun b => !b
theorem non_iff {K : PySem.W.Frag} {G : Hp} {v : V} {x : T} (r : Rep K fa G v x) : decide (v = .non) = x.isNon := by
  cases x <;> cases r <;> rfl
theorem dec_blv {i j : Bool} : decide (i = j) = (i == j) := by cases i <;> cases j <;> rfl
theorem gIs_inv {K : PySem.W.Frag} {C0 : Addr → Prop} {G0 H0 G H : Hp} {σ : L2.St} {ρ : REnv} {v1 v2 : V} {l1 l2 : L} {b : Bool} (O : Ops2 K fa C0 G0 H0 G H σ ρ v1 l1 v2 l2) (e : gIs ρ l1 l2 = some b) :
    (v2 = .non ∧ b = decide (v1 = .non)) ∨ ∃ a c : Bool, v1 = .bl a ∧ v2 = .bl c ∧ b = decide (a = c) := by
  unfold gIs at e
  split at e
  · cases q : l1.view ρ with
    | none => simp [q] at e
    | some x =>
      simp [q] at e
      exact .inl ⟨Rep.non_inv O.r2, by rw [non_iff (view_ok O.env O.r1 q), e]⟩
  · cases q : l1.asBl with
    | none => simp [q] at e
    | some x =>
      simp [q] at e
      have r1 := O.r1
      rw [asBl_inv q] at r1
      exact .inr ⟨_, _, Rep.bl_inv r1, Rep.bl_inv O.r2, by rw [dec_blv, e]⟩
  · cases e
theorem cmp_is : CmpR X fa .Is gIs := by
  refine ⟨_, op_isN.or op_is_bl, fun C0 G0 H0 G H σ ρ v1 v2 l1 l2 b Q O e q => ?_⟩
  rcases gIs_inv O e with ⟨h1, h2⟩ | ⟨a, c, h1, h2, h3⟩
  · subst h2; exact .inl ⟨h1, q⟩
  · subst h3; exact .inr ⟨a, c, h1, h2, q⟩
theorem cmp_isNot : CmpR X fa .IsNot gIsNot := by
  refine ⟨_, op_notN.or op_isnot_bl, fun C0 G0 H0 G H σ ρ v1 v2 l1 l2 b Q O e q => ?_⟩
  cases qe : gIs ρ l1 l2 with
  | none => simp [gIsNot, qe] at e
  | some b' =>
    have e : some (!b') = some b := by rw [← e]; simp [gIsNot, qe]
    cases e
    rcases gIs_inv O qe with ⟨h1, h2⟩ | ⟨a, c, h1, h2, h3⟩
    · subst h2; exact .inl ⟨h1, q⟩
    · subst h3; exact .inr ⟨a, c, h1, h2, q⟩
/-- x in a list of data, in a tuple of flat ones, in a text -/
def T.flat : T → Bool
  | .non => true
  | .bl _ => true
  | .int _ => true
  | .str _ => true
  | _ => false
def T.inl (x : T) (ys : List T) : Bool := ys.any fun y => T.eqv y x
def gIn (ρ : REnv) (l1 l2 : L) : Option Bool :=
  match l1.view ρ, l2.view ρ with
  | some x, some (.lst ys) => if x.shp && (T.lst ys).shp then some (x.inl ys) else none
  | some x, some (.tup ys) => if x.flat && ys.all T.flat then some (x.inl ys) else none
  | some (.str x), some (.str y) => some (!(Builtin.Str.occurrences y x 0 y.length 1).isEmpty)
  | _, _ => none
def gNotIn (ρ : REnv) (l1 l2 : L) : Option Bool := (gIn ρ l1 l2).map fun b => !b
theorem pys_map : ∀ xs : List T, T.pys xs = xs.map T.py
  | [] => rfl
  | x :: xs => by simp only [T.pys, List.map_cons, pys_map xs]
theorem flat_V {K : PySem.W.Frag} {G : Hp} {v : V} {x : T} (h : x.flat = true) (r : Rep K fa G v x) : flatV v = true := by
  cases x <;> first
    | (simp [T.flat] at h; done)
    | (cases r; rfl)
theorem flat_eqv {K : PySem.W.Frag} {G : Hp} {v w : V} {x y : T} (h : x.flat = true) (h' : y.flat = true) (r : Rep K fa G v x) (r' : Rep K fa G w y) : eqV w v = T.eqv y x := by
  cases x <;> first
    | (simp [T.flat] at h; done)
    | (cases y <;> first
        | (simp [T.flat] at h'; done)
        | (cases r; cases r'; simp only [T.eqv, T.py, PyData.eqv, eqV]))
theorem flat_all {K : PySem.W.Frag} {G : Hp} : ∀ {ys : List T} {vs : List V}, ys.all T.flat = true → RepAll K fa G vs ys → vs.all flatV = true
  | [], _, _, h => by cases h; rfl
  | y :: ys, _, hf, h => by
    cases h with
    | cons a b =>
      simp only [List.all_cons, Bool.and_eq_true] at hf ⊢
      exact ⟨flat_V hf.1 a, flat_all hf.2 b⟩
theorem flat_in {K : PySem.W.Frag} {G : Hp} {v : V} {x : T} (hx : x.flat = true) (r : Rep K fa G v x) : ∀ {ys : List T} {vs : List V}, ys.all T.flat = true → RepAll K fa G vs ys → inV v vs = x.inl ys
  | [], _, _, h => by cases h; rfl
  | y :: ys, _, hf, h => by
    cases h with
    | cons a b =>
      simp only [List.all_cons, Bool.and_eq_true] at hf
      have ih := flat_in hx r hf.2 b
      simp only [inV, T.inl] at ih
      simp only [inV, T.inl, List.any_cons, flat_eqv hx hf.1 r a, ih]
theorem gIn_inv {K : PySem.W.Frag} {C0 : Addr → Prop} {G0 H0 G H : Hp} {σ : L2.St} {ρ : REnv} {v1 v2 : V} {l1 l2 : L} {b : Bool} (O : Ops2 K fa C0 G0 H0 G H σ ρ v1 l1 v2 l2) (e : gIn ρ l1 l2 = some b) :
    (∃ d ds, Dp K H v1 d ∧ Dp K H v2 (.list ds) ∧ SeqAt.shaped d = true ∧ SeqAt.shaped (.list ds) = true ∧ b = ds.any fun z => PyData.eqv z d) ∨
    (∃ p xs, v2 = .ref p ∧ (SqL K H p xs ∨ SqT K H p xs) ∧ flatV v1 = true ∧ xs.all flatV = true ∧ b = inV v1 xs) ∨
    ∃ i j, v1 = .str i ∧ v2 = .str j ∧ b = !(Builtin.Str.occurrences j i 0 j.length 1).isEmpty := by
  unfold gIn at e
  split at e
  · rename_i x ys e1 e2
    split at e
    · rename_i h
      cases e
      simp only [Bool.and_eq_true] at h
      have r1 := view_ok O.env O.r1 e1
      have r2 := view_ok O.env O.r2 e2
      have c1 : x.cln = true := by have := h.1; simp only [T.shp, Bool.and_eq_true] at this; exact this.1
      have c2 : (T.lst ys).cln = true := by have := h.2; simp only [T.shp, Bool.and_eq_true] at this; exact this.1
      refine .inl ⟨_, T.pys ys, r1.dp c1, r2.dp c2, T.shaped h.1, T.shaped h.2, ?_⟩
      rw [pys_map, List.any_map]
      rfl
    · cases e
  · rename_i x ys e1 e2
    split at e
    · rename_i h
      cases e
      simp only [Bool.and_eq_true] at h
      have r1 := view_ok O.env O.r1 e1
      have r2 := view_ok O.env O.r2 e2
      cases r2 with
      | tup s a => exact .inr (.inl ⟨_, _, rfl, .inr (.of s), flat_V h.1 r1, flat_all h.2 a, (flat_in h.1 r1 h.2 a).symm⟩)
    · cases e
  · rename_i x y e1 e2
    cases e
    have r1 := view_ok O.env O.r1 e1
    have r2 := view_ok O.env O.r2 e2
    exact .inr (.inr ⟨_, _, Rep.str_inv r1, Rep.str_inv r2, rfl⟩)
  · cases e
theorem cmp_in (hu : X.A.units + 65 < cLine) : CmpR X fa .In gIn := by
  refine ⟨_, (op_inD hu).or (op_in_seq.or op_in_str), fun C0 G0 H0 G H σ ρ v1 v2 l1 l2 b Q O e q => ?_⟩
  rcases gIn_inv O e with ⟨d, ds, h1, h2, h3, h4, h5⟩ | ⟨p, xs, h1, h2, h3, h4, h5⟩ | ⟨i, j, h1, h2, h3⟩
  · subst h5; exact .inl ⟨d, ds, h1, h2, h3, h4, q⟩
  · subst h5; exact .inr (.inl ⟨p, xs, h1, h2, h3, h4, by simpa using q⟩)
  · subst h3; exact .inr (.inr ⟨i, j, h1, h2, q⟩)
theorem cmp_notIn (hu : X.A.units + 65 < cLine) : CmpR X fa .NotIn gNotIn := by
  refine ⟨_, (op_notInD hu).or (op_notIn_seq.or op_notin_str), fun C0 G0 H0 G H σ ρ v1 v2 l1 l2 b Q O e q => ?_⟩
  cases qe : gIn ρ l1 l2 with
  | none => simp [gNotIn, qe] at e
  | some b' =>
    have e : some (!b') = some b := by rw [← e]; simp [gNotIn, qe]
    cases e
    rcases gIn_inv O qe with ⟨d, ds, h1, h2, h3, h4, h5⟩ | ⟨p, xs, h1, h2, h3, h4, h5⟩ | ⟨i, j, h1, h2, h3⟩
    · subst h5; exact .inl ⟨d, ds, h1, h2, h3, h4, q⟩
    · subst h5; exact .inr (.inl ⟨p, xs, h1, h2, h3, h4, by simpa using q⟩)
    · subst h3; exact .inr (.inr ⟨i, j, h1, h2, q⟩)
end
end LW
namespace LW
open PySem PySem.Spec PyProof.Rows L2

section
variable {X : Cx} {fa : Nat → Addr} {e a b c : Expr} {es : List Expr} {d d1 d2 d3 : Den} {pos : Pos}
/-! ### arguments, as trees -/
abbrev DenA := REnv → Option (List T × REnv)
def SA (X : Cx) (fa : Nat → Addr) (es : List Expr) (d : DenA) : Prop :=
  ∃ t : TA, PA X es t ∧ ∀ (σ : L2.St) (G H : Hp) (ρ : REnv) (ts : List T) (ρ' : REnv) (Q : List V → Hp → Prop), EnvOk X.K fa G H σ ρ → d ρ = some (ts, ρ') →
    (∀ vs G' H', At X.K fa (Cl σ ρ) G H G' H' σ ρ' → RepAll X.K fa G' vs ts → Q vs H') → t σ H Q
def dNil : DenA := fun ρ => some ([], ρ)
def dCons (d : Den) (da : DenA) : DenA := fun ρ => (d ρ).bind fun p => p.1.tree.bind fun x => (da p.2).map fun q => (x :: q.1, q.2)
theorem SA.nil : SA X fa [] dNil := ⟨_, pa_nil, fun σ G H ρ ts ρ' Q E hd k => by cases hd; exact k [] G H (At.start E) .nil⟩
theorem SA.cons {da : DenA} (h : SE X fa e d) (ha : SA X fa es da) (hs : starEach (e :: es) X.env = (false, eval e X.env) :: starEach es X.env) : SA X fa (e :: es) (dCons d da) := by
  obtain ⟨t, p, r⟩ := h
  obtain ⟨t', p', r'⟩ := ha
  refine ⟨_, pa_cons p p' hs, fun σ G H ρ ts ρ' Q E hd k => ?_⟩
  cases q : d ρ with
  | none => simp [dCons, q] at hd
  | some z =>
    cases q1 : z.1.tree with
    | none => simp [dCons, q, q1] at hd
    | some x =>
      cases q2 : da z.2 with
      | none => simp [dCons, q, q1, q2] at hd
      | some w =>
        simp [dCons, q, q1, q2] at hd
        obtain ⟨rfl, rfl⟩ := hd
        refine r σ G H ρ z.1 z.2 _ E q fun v G1 H1 P => ?_
        obtain ⟨G1', E1, R1, A1, sm, _⟩ := toTree P.env P.rep P.new P.aft q1
        exact r' σ G1' H1 z.2 w.1 w.2 _ E1 q2 fun vs G2 H2 A2 Rs => k (v :: vs) G2 H2 ⟨A2.env, A1.trans A2.aft⟩ (.cons (R1.mono A2.aft.gg) Rs)
/-- a tuple, a list -/
def dTup (da : DenA) : Den := fun ρ => (da ρ).bind fun p => if p.1.length ≤ line then some (.t (.tup p.1), p.2) else none
def dLst (da : DenA) : Den := fun ρ => (da ρ).bind fun p => if p.1.length ≤ line then some (.own (.lst p.1), p.2) else none
theorem SE.tup {da : DenA} {n : Nat} (h : SA X fa es da) : SE X fa (.Tuple es n pos) (dTup da) := by
  obtain ⟨t, p, r⟩ := h
  refine ⟨_, pe_tup p, fun σ G H ρ l ρ' Q E hd k => ?_⟩
  cases q : da ρ with
  | none => simp [dTup, q] at hd
  | some z =>
    by_cases hz : z.1.length ≤ line
    · simp [dTup, q, hz] at hd
      obtain ⟨rfl, rfl⟩ := hd
      refine r σ G H ρ z.1 z.2 _ E q fun vs G1 H1 A Rs => ⟨by rw [Rs.length, ← line_eq]; exact hz, fun p np => ?_⟩
      exact k _ _ _ (A.tupR np Rs).post
    · simp [dTup, q, hz] at hd
theorem SE.lst {da : DenA} (h : SA X fa es da) : SE X fa (.List es pos) (dLst da) := by
  obtain ⟨t, p, r⟩ := h
  refine ⟨_, pe_lst p, fun σ G H ρ l ρ' Q E hd k => ?_⟩
  cases q : da ρ with
  | none => simp [dLst, q] at hd
  | some z =>
    by_cases hz : z.1.length ≤ line
    · simp [dLst, q, hz] at hd
      obtain ⟨rfl, rfl⟩ := hd
      refine r σ G H ρ z.1 z.2 _ E q fun vs G1 H1 A Rs => ⟨by rw [Rs.length, ← line_eq]; exact hz, fun p np => ?_⟩
      exact k _ _ _ (A.lstR np Rs).post
    · simp [dLst, q, hz] at hd

/-! ### a[i] -/
def sign1 (c : Nat) : Str := ⟨#[c]⟩
def gIx (ρ : REnv) (l1 l2 : L) : Option L :=
  match l2 with
  | .t (.int i) => match l1 with
    | .t (.tup xs) => (atI xs i).map .t
    | .t (.str z) => if z.length ≤ line then (atI z.cps.toList i).map fun c => .t (.str (sign1 c)) else none
    | .t (.lkl xs) => (atI xs i).map .t
    | l => (l.lview ρ).bind fun xs => (atI xs i).map .t
  | _ => none
theorem atI_rep {K : PySem.W.Frag} {G : Hp} {vs : List V} {ts : List T} {i : Int} {x : T} (r : RepAll K fa G vs ts) (h : atI ts i = some x) : ∃ v, atI vs i = some v ∧ Rep K fa G v x := by
  unfold atI at h ⊢
  rw [r.length]
  cases q : ixN ts.length i with
  | none => rw [q] at h; cases h
  | some j =>
    rw [q] at h
    exact r.get h
theorem opt_ix {K : PySem.W.Frag} : OpT K fa (rIx K) gIx := by
  intro C0 G0 H0 G H σ ρ v1 v2 l1 l2 l Q O e k
  unfold gIx at e
  split at e
  · rename_i i
    have e2 := Rep.int_inv O.r2
    split at e
    · rename_i xs
      cases q : atI xs i with
      | none => simp [q] at e
      | some x =>
        simp [q] at e
        subst e
        cases (show Rep K fa G v1 _ from O.r1) with
        | tup s a =>
          obtain ⟨v, h1, h2⟩ := atI_rep a q
          exact .inr (.inl ⟨_, _, _, v, rfl, e2, same_sqT O.env.same (.of s), h1, k _ _ _ (O.toAt.tr h2)⟩)
    · rename_i z
      split at e
      · rename_i hz
        cases q : atI z.cps.toList i with
        | none => simp [q] at e
        | some x =>
          simp [q] at e
          subst e
          exact .inr (.inr ⟨z, i, x, Rep.str_inv O.r1, e2, by rw [← line_eq]; exact hz, q, k _ _ _ (O.toAt.str _)⟩)
      · cases e
    · rename_i xs
      cases q : atI xs i with
      | none => simp [q] at e
      | some x =>
        simp [q] at e
        subst e
        cases (show Rep K fa G v1 _ from O.r1) with
        | lkl s a =>
          obtain ⟨v, h1, h2⟩ := atI_rep a q
          exact .inl ⟨_, _, _, v, rfl, e2, O.env.same.seq s, h1, k _ _ _ (O.toAt.tr h2)⟩
    · cases q0 : l1.lview ρ with
      | none => simp [q0] at e
      | some xs =>
        cases q : atI xs i with
        | none => simp [q0, q] at e
        | some x =>
          simp [q0, q] at e
          subst e
          obtain ⟨p, vs, rfl, hp, rp⟩ := lview_ok O.env O.r1 q0
          obtain ⟨v, h1, h2⟩ := atI_rep rp q
          exact .inl ⟨_, _, _, v, rfl, e2, .of hp, h1, k _ _ _ (O.toAt.tr h2)⟩
  · cases e
theorem SE.ix (h1 : SE X fa a d1) (h2 : SE X fa b d2) (hs : PlainIx b) : SE X fa (.Subscript a b pos) (den2 gIx d1 d2) := h1.two h2 (fun _ _ pa pb => pe_ix ix_seq pa pb hs) opt_ix

/-! ### a[i:j] -/
def SO (X : Cx) (fa : Nat → Addr) (e : Option Expr) (d : REnv → Option (Option Int × REnv)) : Prop :=
  ∃ t : TO, PO X e t ∧ ∀ (σ : L2.St) (G H : Hp) (ρ : REnv) (o : Option Int) (ρ' : REnv) (Q : Option Int → Hp → Prop), EnvOk X.K fa G H σ ρ → d ρ = some (o, ρ') →
    (∀ G' H', At X.K fa (Cl σ ρ) G H G' H' σ ρ' → Q o H') → t σ H Q
abbrev DenO := REnv → Option (Option Int × REnv)
def dNone : DenO := fun ρ => some (none, ρ)
def L.asInt : L → Option Int
  | .t (.int i) => some i
  | _ => none
theorem asInt_inv {l : L} {b : Int} (h : l.asInt = some b) : l = .t (.int b) := by
  unfold L.asInt at h
  split at h
  · cases h; rfl
  · cases h
def dSome (d : Den) : DenO := fun ρ => (d ρ).bind fun p => p.1.asInt.map fun i => (some i, p.2)
theorem SO.none : SO X fa none dNone := ⟨_, po_none, fun σ G H ρ o ρ' Q E hd k => by cases hd; exact k G H (At.start E)⟩
theorem SO.some (h : SE X fa e d) : SO X fa (some e) (dSome d) := by
  obtain ⟨t, p, r⟩ := h
  refine ⟨_, po_some p, fun σ G H ρ o ρ' Q E hd k => ?_⟩
  cases q : d ρ with
  | none => simp [dSome, q] at hd
  | some z =>
    cases q1 : z.1.asInt with
    | none => simp [dSome, q, q1] at hd
    | some x =>
      simp [dSome, q, q1] at hd
      obtain ⟨rfl, rfl⟩ := hd
      refine r σ G H ρ z.1 z.2 _ E q fun v G1 H1 P => ?_
      have rp := P.rep
      rw [asInt_inv q1] at rp
      exact ⟨_, Rep.int_inv rp, k _ _ ⟨P.env, P.aft⟩⟩
/-- xs[lo:hi] -/
def cutT (xs : List T) (lo hi : Option Int) : List T := (xs.drop (HT.sIx xs.length 0 lo)).take (HT.sIx xs.length xs.length hi - HT.sIx xs.length 0 lo)
theorem cut_rep {K : PySem.W.Frag} {G : Hp} {vs : List V} {ts : List T} {lo hi : Option Int} (r : RepAll K fa G vs ts) : RepAll K fa G (cutV vs lo hi) (cutT ts lo hi) := by
  unfold cutV cutT
  rw [r.length]
  exact (r.drop _).take _
def gSl (ρ : REnv) (l : L) (lo hi : Option Int) : Option L :=
  match l with
  | .t (.tup xs) => some (.t (.tup (cutT xs lo hi)))
  | .t (.str z) => if z.length ≤ line then some (.t (.str (Txt.slice z lo hi))) else none
  | .t (.lkl xs) => some (.own (.lst (cutT xs lo hi)))
  | l => (l.lview ρ).map fun xs => .own (.lst (cutT xs lo hi))
def rSlX3 (K : PySem.W.Frag) : V → Option Int → Option Int → Hp → VK → Prop := fun x lo hi H Q => rSlL K x lo hi H Q ∨ (rSlA K x lo hi H Q ∨ C8.rSlX x lo hi H Q)
def dSl (d : Den) (dl dh : DenO) : Den := fun ρ => (d ρ).bind fun p => (dl p.2).bind fun q => (dh q.2).bind fun z => (gSl z.2 p.1 q.1 z.1).map fun l => (l, z.2)
theorem take_self {α : Type} (xs : List α) {a b : Nat} (h1 : a = 0) (h2 : b = xs.length) : (xs.drop a).take (b - a) = xs := by subst h1 h2; simp
theorem sl_ok {K : PySem.W.Frag} {C0 : Addr → Prop} {G0 H0 G H : Hp} {σ : L2.St} {ρ : REnv} {v1 : V} {l1 l : L} {lo hi : Option Int} {Q : VK} (O : Ops1 K fa C0 G0 H0 G H σ ρ v1 l1) (e : gSl ρ l1 lo hi = some l)
    (k : ∀ v G' H', Ops1 K fa C0 G0 H0 G' H' σ ρ v l → Q v H') : rSlX3 K v1 lo hi H Q := by
  unfold gSl at e
  split at e
  · rename_i xs
    cases e
    cases (show Rep K fa G v1 _ from O.r1) with
    | tup s a =>
      refine .inr (.inl ⟨_, _, rfl, same_sqT O.env.same (.of s), fun hw => ?_, fun _ p np => k _ _ _ (O.toAt.tupR np (cut_rep a))⟩)
      have hl := a.length
      rw [hl] at hw
      have : cutT xs lo hi = xs := take_self xs hw.1 hw.2
      rw [this] at k
      exact k _ _ _ (O.toAt.tr (.tup s a))
  · split at e
    · rename_i z hz
      cases e
      exact .inr (.inr ⟨_, Rep.str_inv O.r1, by rw [← line_eq]; exact hz, k _ _ _ (O.toAt.str _)⟩)
    · cases e
  · cases e
    cases (show Rep K fa G v1 _ from O.r1) with
    | lkl s a => exact .inl ⟨_, _, rfl, O.env.same.seq s, fun p np => k _ _ _ (O.toAt.lstR np (cut_rep a))⟩
  · cases q0 : l1.lview ρ with
    | none => simp [q0] at e
    | some xs =>
      simp [q0] at e
      subst e
      obtain ⟨p, vs, rfl, hp, rp⟩ := lview_ok O.env O.r1 q0
      exact .inl ⟨_, _, rfl, .of hp, fun p np => k _ _ _ (O.toAt.lstR np (cut_rep rp))⟩
theorem SE.sl {lo hi : Option Expr} {dl dh : DenO} {p2 : Pos} (h : SE X fa a d) (hl : SO X fa lo dl) (hh : SO X fa hi dh) : SE X fa (.Subscript a (.Slice lo hi none p2) pos) (dSl d dl dh) := by
  obtain ⟨t, p, r⟩ := h
  obtain ⟨tl, pl, rl⟩ := hl
  obtain ⟨th, ph, rh⟩ := hh
  refine ⟨_, pe_slice (sl_list.or (sl_tupA.or C8.sl_txt)) p pl ph, fun σ G H ρ l ρ' Q E hd k => ?_⟩
  cases q : d ρ with
  | none => simp [dSl, q] at hd
  | some z =>
    cases q1 : dl z.2 with
    | none => simp [dSl, q, q1] at hd
    | some w =>
      cases q2 : dh w.2 with
      | none => simp [dSl, q, q1, q2] at hd
      | some y =>
        cases q3 : gSl y.2 z.1 w.1 y.1 with
        | none => simp [dSl, q, q1, q2, q3] at hd
        | some l' =>
          simp [dSl, q, q1, q2, q3] at hd
          obtain ⟨rfl, rfl⟩ := hd
          refine r σ G H ρ z.1 z.2 _ E q fun v G1 H1 P1 => ?_
          refine rl σ G1 H1 z.2 w.1 w.2 _ P1.env q1 fun G2 H2 A2 => ?_
          refine rh σ G2 H2 w.2 y.1 y.2 _ A2.env q2 fun G3 H3 A3 => ?_
          exact sl_ok ⟨⟨A3.env, (P1.aft.trans A2.aft).trans A3.aft⟩, (P1.rep.aft A2.aft).aft A3.aft, P1.new⟩ q3 fun v G' H' R => k v G' H' R.post
end
end LW
namespace LW
open PySem PySem.Spec PyProof.Rows L2

/-! ### one reading for all contexts -/
def tD (K : PySem.W.Frag) (fa : Nat → Addr) (d : Den) : TE := fun σ H Q => ∃ (G : Hp) (ρ : REnv) (l : L) (ρ' : REnv), EnvOk K fa G H σ ρ ∧ d ρ = some (l, ρ') ∧ ∀ v G' H', Post K fa G H σ ρ l ρ' v G' H' → Q v H'
def tDT (K : PySem.W.Frag) (fa : Nat → Addr) (d : DenT) : TT := fun σ H Q => ∃ (G : Hp) (ρ : REnv) (b : Bool) (ρ' : REnv), EnvOk K fa G H σ ρ ∧ d ρ = some (b, ρ') ∧ ∀ G' H', At K fa (Cl σ ρ) G H G' H' σ ρ' → Q b H'
section
variable {X : Cx} {fa : Nat → Addr} {e : Expr} {d : Den}
theorem SE.pe (h : SE X fa e d) : PE X e (tD X.K fa d) := by
  obtain ⟨t, p, r⟩ := h
  exact ⟨fun pins s σ H Q I ⟨G, ρ, l, ρ', E, hd, k⟩ => p.run pins s σ H Q I (r σ G H ρ l ρ' Q E hd k)⟩
theorem SE.rd (K : PySem.W.Frag) (hK : X.K = K) : Rd1 X fa (tD K fa d) d := fun σ G H ρ l ρ' Q E hd k => by
  subst hK
  exact ⟨G, ρ, l, ρ', E, hd, k⟩
theorem ST.pt {d : DenT} (h : ST X fa e d) : PT X e (tDT X.K fa d) := by
  obtain ⟨t, p, r⟩ := h
  exact ⟨fun pins s σ H Q I ⟨G, ρ, l, ρ', E, hd, k⟩ => p.run pins s σ H Q I (r σ G H ρ l ρ' Q E hd k)⟩
end

/-! ### slots stored -/
section
variable {K : PySem.W.Frag} {fa : Nat → Addr} {C0 : Addr → Prop} {G0 H0 G H G' H' : Hp} {σ σ' : L2.St} {ρ ρ' : REnv}
theorem set_get {α : Type} {xs : List α} {i j : Nat} {v w : α} (h : (xs.set i v)[j]? = some w) : (j = i ∧ w = v) ∨ (j ≠ i ∧ xs[j]? = some w) := by
  by_cases e : i = j
  · subst e
    have hi : i < xs.length := by
      have := (List.getElem?_eq_some_iff.mp h).1
      simpa using this
    rw [List.getElem?_set_self hi] at h
    cases h
    exact .inl ⟨rfl, rfl⟩
  · rw [List.getElem?_set_ne e] at h
    exact .inr ⟨fun z => e z.symm, h⟩
theorem set_ne {α : Type} {xs : List α} {i j : Nat} {v w : α} (h : j ≠ i) (e : xs[j]? = some w) : (xs.set i v)[j]? = some w := by
  rw [List.getElem?_set_ne (fun z => h z.symm)]
  exact e
theorem Cl.set_t {i : Nat} {v : Option V} {l : L} (nl : ∀ c, l ≠ .own c) {a : Addr} (h : Cl (σ.set i v) (ρ.set i l) a) : Cl σ ρ a := by
  obtain ⟨j, c, e1, e2⟩ := h
  rcases set_get e1 with ⟨_, e⟩ | ⟨n, e⟩
  · exact absurd e.symm (nl c)
  · rcases set_get e2 with ⟨z, _⟩ | ⟨_, e'⟩
    · exact absurd z n
    · exact ⟨j, c, e, e'⟩
theorem EnvOk.set_t (E : EnvOk K fa G H σ ρ) {i : Nat} {v : V} {x : T} (hi : i < ρ.length) (r : Rep K fa G v x) : EnvOk K fa G H (σ.set i (some v)) (ρ.set i (.t x)) := by
  have hs : i < σ.length := by rw [← E.len]; exact hi
  refine ⟨E.same, by simp [E.len], fun j y e => ?_, fun j c e => ?_, fun j k c c' a e1 e2 e3 e4 => ?_⟩
  · rcases set_get e with ⟨rfl, e'⟩ | ⟨n, e⟩
    · cases e'
      exact ⟨v, List.getElem?_set_self hs, r⟩
    · obtain ⟨w, h1, h2⟩ := E.t j y e
      exact ⟨w, set_ne n h1, h2⟩
  · rcases set_get e with ⟨_, e⟩ | ⟨n, e⟩
    · cases e
    · obtain ⟨a, o, h1, h2⟩ := E.own j c e
      exact ⟨a, o, set_ne n h1, h2⟩
  · rcases set_get e1 with ⟨_, e⟩ | ⟨n, f1⟩
    · cases e
    · rcases set_get e2 with ⟨_, e⟩ | ⟨m, f2⟩
      · cases e
      · rcases set_get e3 with ⟨z, _⟩ | ⟨_, f3⟩
        · exact absurd z n
        · rcases set_get e4 with ⟨z, _⟩ | ⟨_, f4⟩
          · exact absurd z m
          · exact E.inj j k c c' a f1 f2 f3 f4
theorem EnvOk.set_own (E : EnvOk K fa G H σ ρ) {i : Nat} {v : V} {c : OC} (hi : i < ρ.length) (r : LRep K fa G H (Cl σ ρ) σ v (.own c)) : EnvOk K fa G H (σ.set i (some v)) (ρ.set i (.own c)) := by
  have hs : i < σ.length := by rw [← E.len]; exact hi
  obtain ⟨p, o, rfl, g, nc, hh, ro⟩ := r
  refine ⟨E.same, by simp [E.len], fun j y e => ?_, fun j c e => ?_, fun j k c c' a e1 e2 e3 e4 => ?_⟩
  · rcases set_get e with ⟨_, e⟩ | ⟨n, e⟩
    · cases e
    · obtain ⟨w, h1, h2⟩ := E.t j y e
      exact ⟨w, set_ne n h1, h2⟩
  · rcases set_get e with ⟨rfl, e'⟩ | ⟨n, e⟩
    · cases e'
      exact ⟨p, o, List.getElem?_set_self hs, g, hh, ro⟩
    · obtain ⟨a, o, h1, h2⟩ := E.own j c e
      exact ⟨a, o, set_ne n h1, h2⟩
  · rcases set_get e1 with ⟨rfl, e⟩ | ⟨n, f1⟩
    · rcases set_get e2 with ⟨rfl, e⟩ | ⟨m, f2⟩
      · rfl
      · rw [List.getElem?_set_self hs] at e3
        cases e3
        rcases set_get e4 with ⟨z, _⟩ | ⟨_, f4⟩
        · exact absurd z m
        · exact absurd ⟨k, c', f2, f4⟩ nc
    · rcases set_get e2 with ⟨rfl, e⟩ | ⟨m, f2⟩
      · rw [List.getElem?_set_self hs] at e4
        cases e4
        rcases set_get e3 with ⟨z, _⟩ | ⟨_, f3⟩
        · exact absurd z n
        · exact absurd ⟨j, c, f1, f3⟩ nc
      · rcases set_get e3 with ⟨z, _⟩ | ⟨_, f3⟩
        · exact absurd z n
        · rcases set_get e4 with ⟨z, _⟩ | ⟨_, f4⟩
          · exact absurd z m
          · exact E.inj j k c c' a f1 f2 f3 f4
theorem Cl.set_own {i : Nat} {p a : Addr} {c : OC} (h : Cl (σ.set i (some (.ref p))) (ρ.set i (.own c)) a) : a = p ∨ Cl σ ρ a := by
  obtain ⟨j, c', e1, e2⟩ := h
  rcases set_get e2 with ⟨rfl, e⟩ | ⟨n, e⟩
  · cases e; exact .inl rfl
  · rcases set_get e1 with ⟨z, _⟩ | ⟨_, f⟩
    · exact absurd z n
    · exact .inr ⟨j, c', f, e⟩
/-- a slot is forgotten -/
theorem EnvOk.hide (E : EnvOk K fa G H σ ρ) (i : Nat) : EnvOk K fa G H σ (ρ.set i .un) := by
  refine ⟨E.same, by simp [E.len], fun j y e => ?_, fun j c e => ?_, fun j k c c' a e1 e2 e3 e4 => ?_⟩
  · rcases set_get e with ⟨_, e⟩ | ⟨n, e⟩
    · cases e
    · exact E.t j y e
  · rcases set_get e with ⟨_, e⟩ | ⟨n, e⟩
    · cases e
    · exact E.own j c e
  · rcases set_get e1 with ⟨_, e⟩ | ⟨n, f1⟩
    · cases e
    · rcases set_get e2 with ⟨_, e⟩ | ⟨m, f2⟩
      · cases e
      · exact E.inj j k c c' a f1 f2 e3 e4
theorem Cl.hide {i : Nat} {a : Addr} (h : Cl σ (ρ.set i .un) a) : Cl σ ρ a := by
  obtain ⟨j, c, e1, e2⟩ := h
  rcases set_get e1 with ⟨_, e⟩ | ⟨_, e⟩
  · cases e
  · exact ⟨j, c, e, e2⟩
/-- what does not touch the slots' own objects leaves the slots -/
theorem EnvOk.carry {C C' : Addr → Prop} (E : EnvOk K fa G H σ ρ) (a : Aft C C' G H G' H') (s : Same G' H') (n : ∀ b, Cl σ ρ b → ¬ C b) : EnvOk K fa G' H' σ ρ := by
  refine ⟨s, E.len, fun i x e => ?_, fun i c e => ?_, E.inj⟩
  · obtain ⟨v, h1, h2⟩ := E.t i x e
    exact ⟨v, h1, h2.mono a.gg⟩
  · obtain ⟨p, o, h1, h2, h3, h4⟩ := E.own i c e
    have nc := n p ⟨i, c, e, h1⟩
    exact ⟨p, o, h1, a.gn p o h3 nc h2, a.keep p o h3 nc, h4.mono a.gg⟩
theorem Aft.wide {C C' D : Addr → Prop} (a : Aft C C' G H G' H') (h : ∀ b, C b → D b) : Aft D D G H G' H' :=
  ⟨a.gg, fun p o e n => a.keep p o e fun c => n (h p c), fun p o e n g => a.gn p o e (fun c => n (h p c)) g, a.there, fun _ c => .inl c⟩
end

/-! ### targets -/
abbrev DenG := T → REnv → Option REnv
/-- what is known of the slots behind a target: those of as alone have changed -/
structure Slots (as : List Nat) (σ σ' : L2.St) : Prop where
  len : σ'.length = σ.length
  keep : ∀ i, i ∉ as → σ'[i]? = σ[i]?
theorem Slots.refl {as : List Nat} {σ : L2.St} : Slots as σ σ := ⟨rfl, fun _ _ => rfl⟩
theorem Slots.trans {as bs : List Nat} {σ σ1 σ2 : L2.St} (a : Slots as σ σ1) (b : Slots bs σ1 σ2) : Slots (as ++ bs) σ σ2 :=
  ⟨b.len.trans a.len, fun i h => (b.keep i fun z => h (List.mem_append_right _ z)).trans (a.keep i fun z => h (List.mem_append_left _ z))⟩
theorem Slots.mono {as bs : List Nat} {σ σ' : L2.St} (a : Slots as σ σ') (h : ∀ i ∈ as, i ∈ bs) : Slots bs σ σ' := ⟨a.len, fun i n => a.keep i fun z => n (h i z)⟩
theorem Slots.set {i : Nat} {σ : L2.St} {v : Option V} : Slots [i] σ (σ.set i v) := ⟨by simp, fun j h => List.getElem?_set_ne fun z => h (by simp [z])⟩
theorem wipe_get (σ : L2.St) : ∀ (vs : List Nat) (i : Nat), (wipe σ vs)[i]? = if i ∈ vs then (if i < σ.length then some none else none) else σ[i]?
  | [], i => by simp [wipe]
  | v :: vs, i => by
    unfold wipe
    by_cases h : v = i
    · subst h
      rw [if_pos (List.mem_cons_self)]
      by_cases hl : v < σ.length
      · rw [if_pos hl, List.getElem?_set_self (by rw [wipe_length]; exact hl)]
      · rw [if_neg hl]
        exact List.getElem?_eq_none (by rw [List.length_set, wipe_length]; omega)
    · rw [List.getElem?_set_ne h, wipe_get σ vs i]
      by_cases hm : i ∈ vs
      · rw [if_pos hm, if_pos (List.mem_cons_of_mem _ hm)]
      · rw [if_neg hm, if_neg]
        intro z
        rcases List.mem_cons.mp z with z | z
        · exact h z.symm
        · exact hm z
theorem Slots.wiped {as vs : List Nat} {σ σ' : L2.St} (a : Slots as σ σ') (h : ∀ i ∈ as, i ∈ vs) : wipe σ' vs = wipe σ vs := by
  apply List.ext_getElem?
  intro i
  rw [wipe_get, wipe_get, a.len]
  split
  · rfl
  · rename_i n
    exact a.keep i fun z => n (h i z)
def tDG (K : PySem.W.Frag) (fa : Nat → Addr) (as : List Nat) (g : DenG) : TG := fun v σ H Q => ∃ (G : Hp) (ρ : REnv) (x : T) (ρ' : REnv), EnvOk K fa G H σ ρ ∧ Rep K fa G v x ∧ g x ρ = some ρ' ∧
  ∀ σ', EnvOk K fa G H σ' ρ' → (∀ a, Cl σ' ρ' a → Cl σ ρ a) → Slots as σ σ' → Q σ' H
def SG (X : Cx) (fa : Nat → Addr) (tg : Expr) (as : List Nat) (g : DenG) : Prop := PG X tg (tDG X.K fa as g)
def gNameT (i : Nat) : DenG := fun x ρ => if i < ρ.length then some (ρ.set i (.t x)) else none
/-- several targets one after the other -/
abbrev DenGs := List T → REnv → Option REnv
def tDGs (K : PySem.W.Frag) (fa : Nat → Addr) (as : List Nat) (g : DenGs) : TGs := fun vs σ H Q => ∃ (G : Hp) (ρ : REnv) (xs : List T) (ρ' : REnv), EnvOk K fa G H σ ρ ∧ RepAll K fa G vs xs ∧ g xs ρ = some ρ' ∧
  ∀ σ', EnvOk K fa G H σ' ρ' → (∀ a, Cl σ' ρ' a → Cl σ ρ a) → Slots as σ σ' → Q σ' H
def SGs (X : Cx) (fa : Nat → Addr) (ts : List Expr) (as : List Nat) (g : DenGs) : Prop := PGs X ts (tDGs X.K fa as g)
def gNilT : DenGs := fun xs ρ => match xs with | [] => some ρ | _ => none
def gConsT (g : DenG) (gs : DenGs) : DenGs := fun xs ρ => match xs with | [] => none | x :: r => (g x ρ).bind (gs r)
def gTupT (n : Nat) (gs : DenGs) : DenG := fun x ρ => match x with
  | .tup xs => if xs.length = n then gs xs ρ else none
  | _ => none
section
variable {X : Cx} {fa : Nat → Addr} {e tg : Expr} {es : List Expr} {pos : Pos}
theorem SG.name {i : Nat} {x : Str} (hN : X.N.Nodup) (hi : X.N[i]? = some x) (hx : Loc X.env.scope x) (hf : X.fn x = true ∨ X.env.scope.names.lookup x = some .local) : SG X fa (.Name x pos) [i] (gNameT i) := by
  have p : PG X (.Name x pos) (gName i) := pg_name hN hi hx hf
  refine ⟨fun pins s σ H v u Q I r ⟨G, ρ, y, ρ', E, ry, hg, k⟩ => p.run pins s σ H v u Q I r ?_⟩
  unfold gNameT at hg
  split at hg
  · rename_i hl
    cases hg
    exact k _ (E.set_t hl ry) (fun a h => Cl.set_t (fun c z => by cases z) h) Slots.set
  · cases hg
theorem SGs.nil : SGs X fa [] [] gNilT := ⟨fun pins s σ H vs us Q I r ⟨G, ρ, xs, ρ', E, rx, hg, k⟩ => by
  cases xs with
  | nil =>
    cases hg
    cases rx
    exact pgs_nil.run pins s σ H [] us Q I r ⟨rfl, k σ E (fun _ h => h) Slots.refl⟩
  | cons x xs => cases hg⟩
theorem SGs.cons {as bs : List Nat} {g : DenG} {gs : DenGs} (h1 : SG X fa e as g) (h2 : SGs X fa es bs gs) (hs : (assignEach (e :: es) X.env).map (·.2) = assign e X.env :: (assignEach es X.env).map (·.2)) : SGs X fa (e :: es) (as ++ bs) (gConsT g gs) :=
  ⟨fun pins s σ H vs us Q I r ⟨G, ρ, xs, ρ', E, rx, hg, k⟩ => by
  refine (pgs_cons h1 h2 hs).run pins s σ H vs us Q I r ?_
  cases xs with
  | nil => cases hg
  | cons x xs =>
    cases rx with
    | @cons v vs _ _ a b =>
      cases q : g x ρ with
      | none => simp [gConsT, q] at hg
      | some ρ1 =>
        simp [gConsT, q] at hg
        exact ⟨v, vs, rfl, G, ρ, x, ρ1, E, a, q, fun σ1 E1 c1 s1 => ⟨G, ρ1, xs, ρ', E1, b, hg, fun σ2 E2 c2 s2 => k σ2 E2 (fun a h => c1 a (c2 a h)) (s1.trans s2)⟩⟩⟩
theorem SG.tup {as : List Nat} {gs : DenGs} {kk n : Nat} (hc : X.calm = true) (h : SGs X fa es as gs) (hn : (assignEach es X.env).length = n) (hst : (assignEach es X.env).findIdx? (·.1) = none) : SG X fa (.Tuple es kk pos) as (gTupT n gs) :=
  ⟨fun pins s σ H v u Q I r ⟨G, ρ, x, ρ', E, rx, hg, k⟩ => by
  refine (pg_tup hc h hn hst).run pins s σ H v u Q I r ?_
  unfold gTupT at hg
  split at hg
  · rename_i xs
    split at hg
    · rename_i hl
      cases rx with
      | tup s1 a =>
        exact ⟨_, _, rfl, same_sqT E.same (.of s1), by rw [a.length]; exact hl, G, ρ, xs, ρ', E, a, hg, k⟩
    · cases hg
  · cases hg⟩
end

/-! ### what a loop walks -/
def Non : Addr → Prop := fun _ => False
structure Walks (K : PySem.W.Frag) (fa : Nat → Addr) (J : It) (bs : List Addr) (xs : List T) (Kp : Hp → Hp → Prop) : Prop where
  go : ∀ (i : Nat) (G H : Hp) (x : T), Kp G H → Same G H → xs[i]? = some x → J.go i H ∧ ∀ v H', J.yld i H v H' → ∃ G', Aft Non Non G H G' H' ∧ Same G' H' ∧ Rep K fa G' v x
  stop : ∀ (i : Nat) (G H : Hp), Kp G H → Same G H → xs.length ≤ i → J.stop i H
  stb : ∀ (C C' : Addr → Prop) (G H G' H' : Hp), Kp G H → Aft C C' G H G' H' → (∀ b ∈ bs, ¬ C b) → Kp G' H'
def hideO (ho : Option Nat) (ρ : REnv) : REnv := match ho with
  | none => ρ
  | some i => ρ.set i .un
abbrev DenI := REnv → Option (List T × Option Nat × REnv)
def SI (X : Cx) (fa : Nat → Addr) (tg iter : Expr) (d : DenI) : Prop :=
  ∃ wi : TI, PI X tg iter wi ∧ ∀ (σ : L2.St) (G H : Hp) (ρ : REnv) (xs : List T) (ho : Option Nat) (ρ' : REnv) (R : It → Hp → Prop), EnvOk X.K fa G H σ ρ → d ρ = some (xs, ho, ρ') →
    (∀ J bs Kp G' H', At X.K fa (Cl σ ρ) G H G' H' σ ρ' → Walks X.K fa J bs xs Kp → Kp G' H' → (∀ b ∈ bs, H' b ≠ none ∧ ¬ Cl σ (hideO ho ρ') b) → R J H') → wi σ H R
section
variable {K : PySem.W.Frag} {fa : Nat → Addr}
theorem Aft.same {G H : Hp} : Aft Non Non G H G H := ⟨Same.refl _, fun _ _ h _ => h, fun _ _ _ _ h => h, fun _ h => h, fun _ h => h.elim⟩
/-- a list that stays, tracked, not the frozen part's -/
theorem walks_own {a : Addr} {vs : List V} {xs : List T} : Walks K fa (Itl K a) [a] xs (fun G H => H a = some (.lst vs) ∧ RepAll K fa G vs xs) where
  go := fun i G H x ⟨h, r⟩ s e => by
    obtain ⟨v, h1, h2⟩ := r.get e
    refine ⟨⟨vs, v, .of h, h1⟩, fun w H' hy => ?_⟩
    obtain ⟨rfl, f⟩ := hy
    have : w = v := Option.some.inj ((f vs (.of h)).symm.trans h1)
    subst this
    exact ⟨G, Aft.same, s, h2⟩
  stop := fun i G H ⟨h, r⟩ s hi => ⟨vs, .of h, by rw [r.length]; exact hi⟩
  stb := fun C C' G H G' H' ⟨h, r⟩ a n => ⟨a.keep _ _ h (n _ (by simp)), r.mono a.gg⟩
theorem walks_l {a : Addr} {vs : List V} {xs : List T} : Walks K fa (Itl K a) [] xs (fun G H => SqL K G a vs ∧ RepAll K fa G vs xs) where
  go := fun i G H x ⟨h, r⟩ s e => by
    obtain ⟨v, h1, h2⟩ := r.get e
    refine ⟨⟨vs, v, s.seq h, h1⟩, fun w H' hy => ?_⟩
    obtain ⟨rfl, f⟩ := hy
    have : w = v := Option.some.inj ((f vs (s.seq h)).symm.trans h1)
    subst this
    exact ⟨G, Aft.same, s, h2⟩
  stop := fun i G H ⟨h, r⟩ s hi => ⟨vs, s.seq h, by rw [r.length]; exact hi⟩
  stb := fun C C' G H G' H' ⟨h, r⟩ a n => ⟨a.gg.seq h, r.mono a.gg⟩
end
end LW
namespace LW
open PySem PySem.Spec PyProof.Rows L2

section
variable {K : PySem.W.Frag} {fa : Nat → Addr}
theorem walks_t {a : Addr} {vs : List V} {xs : List T} : Walks K fa (Itt K a) [] xs (fun G H => SqT K G a vs ∧ RepAll K fa G vs xs) where
  go := fun i G H x ⟨h, r⟩ s e => by
    obtain ⟨v, h1, h2⟩ := r.get e
    refine ⟨⟨vs, v, same_sqT s h, h1⟩, fun w H' hy => ?_⟩
    obtain ⟨rfl, f⟩ := hy
    have : w = v := Option.some.inj ((f vs (same_sqT s h)).symm.trans h1)
    subst this
    exact ⟨G, Aft.same, s, h2⟩
  stop := fun i G H ⟨h, r⟩ s hi => ⟨vs, same_sqT s h, by rw [r.length]; exact hi⟩
  stb := fun C C' G H G' H' ⟨h, r⟩ a n => ⟨same_sqT a.gg h, r.mono a.gg⟩
def signs (x : Str) : List T := x.cps.toList.map fun c => .str (sign1 c)
theorem walks_s {x : Str} : Walks K fa (Its x) [] (signs x) (fun _ _ => True) where
  go := fun i G H y _ s e => by
    have hi : i < x.cps.toList.length := by
      have := (List.getElem?_eq_some_iff.mp e).1
      simpa [signs] using this
    have e2 : x.cps[i]? = some x.cps.toList[i] := by simp
    refine ⟨(show i < x.cps.size by simpa using hi), fun w H' hy => ?_⟩
    obtain ⟨rfl, c, h1, rfl⟩ := hy
    refine ⟨G, Aft.same, s, ?_⟩
    have : y = .str (sign1 c) := by
      simp only [signs, List.getElem?_map] at e
      rw [Array.getElem?_toList, h1] at e
      simpa using e.symm
    subst this
    exact .str _
  stop := fun i G H _ s hi => by
    show x.cps.size ≤ i
    simpa [signs] using hi
  stb := fun _ _ _ _ _ _ _ _ _ => trivial
def rangeT (lo c : Int) (n : Nat) : List T := (List.range n).map fun i => .int (lo + (i : Nat) * c)
theorem walks_r {lo c : Int} {n : Nat} : Walks K fa (Itc lo c n) [] (rangeT lo c n) (fun _ _ => True) where
  go := fun i G H y _ s e => by
    have hi : i < n := by
      have := (List.getElem?_eq_some_iff.mp e).1
      simpa [rangeT] using this
    refine ⟨hi, fun w H' hy => ?_⟩
    obtain ⟨rfl, rfl⟩ := hy
    refine ⟨G, Aft.same, s, ?_⟩
    have : y = .int (lo + (i : Nat) * c) := by
      simp [rangeT, hi] at e
      exact e.symm
    subst this
    exact .int _
  stop := fun i G H _ s hi => by
    show n ≤ i
    simpa [rangeT] using hi
  stb := fun _ _ _ _ _ _ _ _ _ => trivial
def rangeU (lo : Int) (n : Nat) : List T := (List.range n).map fun i => .int (lo + (i : Nat))
theorem walks_u {lo : Int} {n : Nat} : Walks K fa (Itr lo n) [] (rangeU lo n) (fun _ _ => True) where
  go := fun i G H y _ s e => by
    have hi : i < n := by
      have := (List.getElem?_eq_some_iff.mp e).1
      simpa [rangeU] using this
    refine ⟨hi, fun w H' hy => ?_⟩
    obtain ⟨rfl, rfl⟩ := hy
    refine ⟨G, Aft.same, s, ?_⟩
    have : y = .int (lo + (i : Nat)) := by
      simp [rangeU, hi] at e
      exact e.symm
    subst this
    exact .int _
  stop := fun i G H _ s hi => by
    show n ≤ i
    simpa [rangeU] using hi
  stb := fun _ _ _ _ _ _ _ _ _ => trivial
/-- a tuple just made by the iterator -/
theorem yld_tup {G H : Hp} {T0 : Addr} {ys : List V} {ts : List T} (s : Same G H) (n : H T0 = none) (r : RepAll K fa G ys ts) :
    ∃ G', Aft Non Non G H G' (upd H T0 (.tup ys)) ∧ Same G' (upd H T0 (.tup ys)) ∧ Rep K fa G' (.ref T0) (.tup ts) := by
  have E : EnvOk K fa G H [] [] := ⟨s, rfl, fun i x e => by simp at e, fun i c e => by simp at e, fun i j c c' a e => by simp at e⟩
  have cn : ∀ a, ¬ Cl [] [] a := fun a ⟨i, c, e, _⟩ => by simp at e
  obtain ⟨A, R⟩ := (At.start E).newTup n r
  refine ⟨_, ⟨A.aft.gg, fun p o e _ => A.aft.keep p o e (cn p), fun p o e _ g => A.aft.gn p o e (cn p) g, A.aft.there, fun _ h => h.elim⟩, A.env.same, R⟩
def enumT (xs : List T) : List T := xs.zipIdx.map fun p => .tup [.int (p.2 : Nat), p.1]
theorem enumT_get {xs : List T} {i : Nat} {y : T} (h : (enumT xs)[i]? = some y) : ∃ x, xs[i]? = some x ∧ y = .tup [.int (i : Nat), x] := by
  simp only [enumT, List.getElem?_map, List.getElem?_zipIdx] at h
  cases q : xs[i]? with
  | none => simp [q] at h
  | some x =>
    simp [q] at h
    exact ⟨x, rfl, h.symm⟩
theorem enumT_len (xs : List T) : (enumT xs).length = xs.length := by simp [enumT]
theorem walks_en {a : Addr} {vs : List V} {xs : List T} {bs : List Addr} {Kp : Hp → Hp → Prop} (hk : ∀ G H, Kp G H → Same G H → SqL K H a vs ∧ RepAll K fa G vs xs)
    (stb : ∀ (C C' : Addr → Prop) (G H G' H' : Hp), Kp G H → Aft C C' G H G' H' → (∀ b ∈ bs, ¬ C b) → Kp G' H') : Walks K fa (Ite K a) bs (enumT xs) Kp where
  go := fun i G H y kp s e => by
    obtain ⟨h, r⟩ := hk G H kp s
    obtain ⟨x, ex, rfl⟩ := enumT_get e
    obtain ⟨v, h1, h2⟩ := r.get ex
    refine ⟨⟨vs, v, h, h1⟩, fun w H' hy => ?_⟩
    obtain ⟨T0, z, rfl, n, rfl, f⟩ := hy
    have : z = v := Option.some.inj ((f vs h).symm.trans h1)
    subst this
    exact yld_tup s n (.cons (.int _) (.one h2))
  stop := fun i G H kp s hi => by
    obtain ⟨h, r⟩ := hk G H kp s
    exact ⟨vs, h, by rw [r.length]; rw [enumT_len] at hi; exact hi⟩
  stb := stb
def zipT : List T → List T → List T
  | x :: xs, y :: ys => .tup [x, y] :: zipT xs ys
  | _, _ => []
theorem zipT_get : ∀ {xs ys : List T} {i : Nat} {z : T}, (zipT xs ys)[i]? = some z → ∃ x y, xs[i]? = some x ∧ ys[i]? = some y ∧ z = .tup [x, y]
  | [], ys, i, z, h => by simp [zipT] at h
  | x :: xs, [], i, z, h => by simp [zipT] at h
  | x :: xs, y :: ys, 0, z, h => by
    simp [zipT] at h
    exact ⟨x, y, rfl, rfl, h.symm⟩
  | x :: xs, y :: ys, i + 1, z, h => by
    simp only [zipT, List.getElem?_cons_succ] at h
    obtain ⟨a, b, h1, h2, h3⟩ := zipT_get h
    exact ⟨a, b, by simpa using h1, by simpa using h2, h3⟩
theorem zipT_end : ∀ {xs ys : List T} {i : Nat}, (zipT xs ys).length ≤ i → xs.length ≤ i ∨ ys.length ≤ i
  | [], ys, i, h => .inl (by simp)
  | x :: xs, [], i, h => .inr (by simp)
  | x :: xs, y :: ys, 0, h => by simp [zipT] at h
  | x :: xs, y :: ys, i + 1, h => by
    simp only [zipT, List.length_cons] at h ⊢
    rcases zipT_end (xs := xs) (ys := ys) (i := i) (by omega) with z | z
    · exact .inl (by omega)
    · exact .inr (by omega)
theorem walks_z {a b : Addr} {vs ws : List V} {xs ys : List T} {bs : List Addr} {Kp : Hp → Hp → Prop} (hk : ∀ G H, Kp G H → Same G H → SqL K H a vs ∧ RepAll K fa G vs xs ∧ SqL K H b ws ∧ RepAll K fa G ws ys)
    (stb : ∀ (C C' : Addr → Prop) (G H G' H' : Hp), Kp G H → Aft C C' G H G' H' → (∀ b ∈ bs, ¬ C b) → Kp G' H') : Walks K fa (Itz K a b) bs (zipT xs ys) Kp where
  go := fun i G H y kp s e => by
    obtain ⟨h, r, h', r'⟩ := hk G H kp s
    obtain ⟨x, y, ex, ey, rfl⟩ := zipT_get e
    obtain ⟨v, h1, h2⟩ := r.get ex
    obtain ⟨v', h1', h2'⟩ := r'.get ey
    refine ⟨⟨vs, ws, v, v', h, h', h1, h1'⟩, fun w H' hy => ?_⟩
    obtain ⟨T0, z, z', rfl, n, rfl, f, f'⟩ := hy
    have : z = v := Option.some.inj ((f vs h).symm.trans h1)
    subst this
    have : z' = v' := Option.some.inj ((f' ws h').symm.trans h1')
    subst this
    exact yld_tup s n (.cons h2 (.one h2'))
  stop := fun i G H kp s hi => by
    obtain ⟨h, r, h', r'⟩ := hk G H kp s
    refine ⟨vs, ws, h, h', ?_⟩
    rw [r.length, r'.length]
    exact zipT_end hi
  stb := stb
theorem walks_zt {a b : Addr} {vs ws : List V} {xs ys : List T} : Walks K fa (RZ.ItzT K a b) [] (zipT xs ys) (fun G H => SqT K G a vs ∧ RepAll K fa G vs xs ∧ SqT K G b ws ∧ RepAll K fa G ws ys) where
  go := fun i G H y ⟨h, r, h', r'⟩ s e => by
    obtain ⟨x, y, ex, ey, rfl⟩ := zipT_get e
    obtain ⟨v, h1, h2⟩ := r.get ex
    obtain ⟨v', h1', h2'⟩ := r'.get ey
    refine ⟨⟨vs, ws, v, v', same_sqT s h, same_sqT s h', h1, h1'⟩, fun w H' hy => ?_⟩
    obtain ⟨T0, z, z', rfl, n, rfl, f, f'⟩ := hy
    have : z = v := Option.some.inj ((f vs (same_sqT s h)).symm.trans h1)
    subst this
    have : z' = v' := Option.some.inj ((f' ws (same_sqT s h')).symm.trans h1')
    subst this
    exact yld_tup s n (.cons h2 (.one h2'))
  stop := fun i G H ⟨h, r, h', r'⟩ s hi => by
    refine ⟨vs, ws, same_sqT s h, same_sqT s h', ?_⟩
    rw [r.length, r'.length]
    exact zipT_end hi
  stb := fun C C' G H G' H' ⟨h, r, h', r'⟩ a n => ⟨same_sqT a.gg h, r.mono a.gg, same_sqT a.gg h', r'.mono a.gg⟩
/-- an operand that is a list, walked: what has to stay, what is hidden from the body -/
def L.hid (ρ : REnv) : L → Option Nat
  | .ref i => some i
  | _ => none
theorem Rd_at {G H : Hp} {a : Addr} {vs : List V} (s : Same G H) (h : G a = some (.lst vs)) : SqL K H a vs := .of (s _ _ h)
/-- a list operand through a loop: its address, and a condition that stays -/
theorem stays {C0 : Addr → Prop} {G0 H0 G H : Hp} {σ : L2.St} {ρ : REnv} {v : V} {l : L} {xs : List T} (O : Ops1 K fa C0 G0 H0 G H σ ρ v l) (e : l.lview ρ = some xs) :
    ∃ (a : Addr) (vs : List V) (bs : List Addr) (Kp : Hp → Hp → Prop), v = .ref a ∧ Kp G H ∧ SqL K H a vs ∧ (∀ G H, Kp G H → Same G H → SqL K H a vs ∧ RepAll K fa G vs xs) ∧
      (∀ (C C' : Addr → Prop) (G H G' H' : Hp), Kp G H → Aft C C' G H G' H' → (∀ b ∈ bs, ¬ C b) → Kp G' H') ∧ ∀ b ∈ bs, H b ≠ none ∧ ¬ Cl σ (hideO (l.hid ρ) ρ) b := by
  obtain ⟨A, r, nw⟩ := O
  cases l with
  | un => cases e
  | t y =>
    cases y with
    | lst ys =>
      cases e
      cases (show Rep K fa G v _ from r) with
      | @lst a vs _ g rr =>
        exact ⟨a, vs, [], fun G H => SqL K G a vs ∧ RepAll K fa G vs xs, rfl, ⟨.of g, rr⟩, .of (A.env.same _ _ g), fun G H ⟨h1, h2⟩ s => ⟨s.seq h1, h2⟩, fun C C' G H G' H' ⟨h1, h2⟩ a n => ⟨a.gg.seq h1, h2.mono a.gg⟩, fun b hb => by simp at hb⟩
    | _ => cases e
  | own c =>
    cases c with
    | lst ys =>
      cases e
      obtain ⟨p, o, rfl, g, n, hh, rr⟩ := r
      cases o with
      | lst vs =>
        refine ⟨p, vs, [p], fun G H => H p = some (.lst vs) ∧ RepAll K fa G vs xs, rfl, ⟨hh, rr⟩, .of hh, fun G H ⟨h1, h2⟩ s => ⟨.of h1, h2⟩, fun C C' G H G' H' ⟨h1, h2⟩ a nn => ⟨a.keep _ _ h1 (nn p (by simp)), h2.mono a.gg⟩, fun b hb => ?_⟩
        have : b = p := by simpa using hb
        subst this
        exact ⟨by rw [hh]; simp, n⟩
      | _ => exact (show False from rr).elim
    | _ => cases e
  | ref i =>
    cases q : ρ[i]? with
    | none => simp only [L.lview, q] at e; cases e
    | some m =>
      simp only [L.lview, q] at e
      cases m with
      | own c =>
        cases c with
        | lst ys =>
          cases e
          obtain ⟨p, o, e1, e2, e3, e4⟩ := A.env.own i _ q
          have e5 : σ[i]? = some (some v) := r
          rw [e1] at e5; cases e5
          cases o with
          | lst vs =>
            refine ⟨p, vs, [p], fun G H => H p = some (.lst vs) ∧ RepAll K fa G vs xs, rfl, ⟨e3, e4⟩, .of e3, fun G H ⟨h1, h2⟩ s => ⟨.of h1, h2⟩, fun C C' G H G' H' ⟨h1, h2⟩ a nn => ⟨a.keep _ _ h1 (nn p (by simp)), h2.mono a.gg⟩, fun b hb => ?_⟩
            have : b = p := by simpa using hb
            subst this
            refine ⟨by rw [e3]; simp, fun ⟨j, c, f1, f2⟩ => ?_⟩
            have f1 : (ρ.set i .un)[j]? = some (.own c) := f1
            rcases set_get f1 with ⟨_, z⟩ | ⟨n, z⟩
            · cases z
            · exact n (A.env.inj j i _ _ _ z q f2 e1)
          | _ => exact (show False from e4).elim
        | _ => cases e
      | _ => cases e
end
section
variable {X : Cx} {fa : Nat → Addr} {e e2 tg : Expr} {d d1 d2 : Den} {pos : Pos}
/-- for x in a list, a tuple, a text -/
def iSeq (d : Den) : DenI := fun ρ => (d ρ).bind fun p => match p.1 with
  | .t (.tup xs) => some (xs, none, p.2)
  | .t (.str x) => some (signs x, none, p.2)
  | .t (.lkl xs) => some (xs, none, p.2)
  | l => (l.lview p.2).map fun xs => (xs, l.hid p.2, p.2)
theorem pi_or {w w' : TI} (h : PI X tg e w) (h' : PI X tg e w') : PI X tg e (fun σ H R => w σ H R ∨ w' σ H R) :=
  ⟨fun pins s σ H R I q => q.elim (h.run pins s σ H R I) (h'.run pins s σ H R I)⟩
theorem SI.seq (h : SE X fa e d) : SI X fa tg e (iSeq d) := by
  have p := h.pe
  refine ⟨_, pi_or (pi_list p) (pi_or (pi_tup p) (pi_str p)), fun σ G H ρ xs ho ρ' R E hd k => ?_⟩
  cases q : d ρ with
  | none => simp [iSeq, q] at hd
  | some z =>
    simp only [iSeq, q, Option.bind_some] at hd
    split at hd
    · rename_i ys ez
      cases hd
      refine .inr (.inl ⟨G, ρ, z.1, z.2, E, q, fun v G' H' P => ?_⟩)
      have rp := P.rep
      rw [ez] at rp
      cases (show Rep X.K fa G' v _ from rp) with
      | @tup a vs _ s r => exact ⟨a, rfl, ⟨vs, same_sqT P.env.same (.of s)⟩, k _ _ _ _ _ ⟨P.env, P.aft⟩ walks_t ⟨.of s, r⟩ fun b hb => by simp at hb⟩
    · rename_i y ez
      cases hd
      refine .inr (.inr ⟨G, ρ, z.1, z.2, E, q, fun v G' H' P => ?_⟩)
      have rp := P.rep
      rw [ez] at rp
      exact ⟨y, Rep.str_inv rp, k _ _ _ _ _ ⟨P.env, P.aft⟩ walks_s trivial fun b hb => by simp at hb⟩
    · rename_i ys ez
      cases hd
      refine .inl ⟨G, ρ, z.1, z.2, E, q, fun v G' H' P => ?_⟩
      have rp := P.rep
      rw [ez] at rp
      cases (show Rep X.K fa G' v _ from rp) with
      | @lkl a vs _ s r => exact ⟨a, rfl, ⟨vs, P.env.same.seq s⟩, k _ _ _ _ _ ⟨P.env, P.aft⟩ walks_l ⟨s, r⟩ fun b hb => by simp at hb⟩
    · cases q1 : z.1.lview z.2 with
      | none => simp [q1] at hd
      | some ys =>
        simp [q1] at hd
        obtain ⟨rfl, rfl, rfl⟩ := hd
        refine .inl ⟨G, ρ, z.1, z.2, E, q, fun v G' H' P => ?_⟩
        obtain ⟨a, vs, bs, Kp, rfl, kp, sq, hk, stb, hb⟩ := stays P.ops1 q1
        refine ⟨a, rfl, ⟨vs, sq⟩, k _ bs Kp _ _ ⟨P.env, P.aft⟩ ⟨fun i G H x kq s e => ?_, fun i G H kq s hi => ?_, stb⟩ kp hb⟩
        · obtain ⟨h1, h2⟩ := hk G H kq s
          obtain ⟨v, f1, f2⟩ := h2.get e
          refine ⟨⟨vs, v, h1, f1⟩, fun w H' hy => ?_⟩
          obtain ⟨rfl, f⟩ := hy
          have : w = v := Option.some.inj ((f vs h1).symm.trans f1)
          subst this
          exact ⟨G, Aft.same, s, f2⟩
        · obtain ⟨h1, h2⟩ := hk G H kq s
          exact ⟨vs, h1, by rw [h2.length]; exact hi⟩
/-- range -/
def big : Int := 4611686018427387904
def inBig (i : Int) : Bool := decide (-big ≤ i) && decide (i < big)
theorem inBig_of {i : Int} (h : inBig i = true) : -(2 ^ 62) ≤ i ∧ i < 2 ^ 62 := by
  simp only [inBig, Bool.and_eq_true, decide_eq_true_eq] at h
  exact ⟨h.1, h.2⟩
def iRange1 (d : DenA) : DenI := fun ρ => (d ρ).bind fun p => match p.1 with
  | [.int j] => if inBig j then some (rangeU 0 j.toNat, none, p.2) else none
  | _ => none
def iRange2 (d : DenA) : DenI := fun ρ => (d ρ).bind fun p => match p.1 with
  | [.int i, .int j] => if inBig i && inBig j then some (rangeU i (j - i).toNat, none, p.2) else none
  | _ => none
theorem SI.range1 {a : Expr} {d : DenA} {p : Pos} (hg : Gl X "range") (hm : X.mg "range" = none) (ha : SA X fa [a] d) (hs : starEach [a] X.env = [(false, eval a X.env)]) : SI X fa tg (.Call (.Name "range" p) [a] [] pos) (iRange1 d) := by
  obtain ⟨t, pa, r⟩ := ha
  refine ⟨_, pi_range1 hg hm pa hs, fun σ G H ρ xs ho ρ' R E hd k => ?_⟩
  cases q : d ρ with
  | none => simp [iRange1, q] at hd
  | some z =>
    simp only [iRange1, q, Option.bind_some] at hd
    split at hd
    · rename_i j ez
      split at hd
      · rename_i hb
        cases hd
        refine r σ G H ρ z.1 z.2 _ E q fun vs G' H' A rr => ?_
        rw [ez] at rr
        have hv : vs = [V.int j] := RepAll.ints (ns := [j]) rr
        have hb := inBig_of hb
        exact ⟨j, hv, hb.1, hb.2, k _ _ _ _ _ A walks_u trivial fun b hb => by simp at hb⟩
      · cases hd
    · cases hd
theorem SI.range2 {a b : Expr} {d : DenA} {p : Pos} (hg : Gl X "range") (hm : X.mg "range" = none) (ha : SA X fa [a, b] d) (hs : starEach [a, b] X.env = [(false, eval a X.env), (false, eval b X.env)]) (hs2 : starEach [b] X.env = [(false, eval b X.env)]) :
    SI X fa tg (.Call (.Name "range" p) [a, b] [] pos) (iRange2 d) := by
  obtain ⟨t, pa, r⟩ := ha
  refine ⟨_, pi_range2 hg hm pa hs hs2, fun σ G H ρ xs ho ρ' R E hd k => ?_⟩
  cases q : d ρ with
  | none => simp [iRange2, q] at hd
  | some z =>
    simp only [iRange2, q, Option.bind_some] at hd
    split at hd
    · rename_i i j ez
      split at hd
      · rename_i hb
        cases hd
        refine r σ G H ρ z.1 z.2 _ E q fun vs G' H' A rr => ?_
        rw [ez] at rr
        have hv : vs = [V.int i, V.int j] := RepAll.ints (ns := [i, j]) rr
        simp only [Bool.and_eq_true] at hb
        have h1 := inBig_of hb.1
        have h2 := inBig_of hb.2
        exact ⟨i, j, hv, ⟨h1.1, h1.2, h2.1, h2.2⟩, k _ _ _ _ _ A walks_u trivial fun b hb => by simp at hb⟩
      · cases hd
    · cases hd
/-- enumerate of a list -/
def iEnumT (d : Den) : DenI := fun ρ => (d ρ).bind fun p => (p.1.lview p.2).map fun xs => (enumT xs, p.1.hid p.2, p.2)
theorem SI.enum {elts : List Expr} {kk : Nat} {p tpos : Pos} (hg : Gl X "enumerate") (hm : X.mg "enumerate" = none) (h : SE X fa e d) (hs : starEach [e] X.env = [(false, eval e X.env)]) (hs' : starEach (e :: []) X.env = (false, eval e X.env) :: starEach [] X.env) :
    SI X fa (.Tuple elts kk tpos) (.Call (.Name "enumerate" p) [e] [] pos) (iEnumT d) := by
  refine ⟨_, pi_enum hg hm (pa_cons h.pe pa_nil hs') hs, fun σ G H ρ xs ho ρ' R E hd k => ?_⟩
  cases q : d ρ with
  | none => simp [iEnumT, q] at hd
  | some z =>
    cases q1 : z.1.lview z.2 with
    | none => simp [iEnumT, q, q1] at hd
    | some ys =>
      simp [iEnumT, q, q1] at hd
      obtain ⟨rfl, rfl, rfl⟩ := hd
      refine ⟨G, ρ, z.1, z.2, E, q, fun v G' H' P => ?_⟩
      obtain ⟨a, vs, bs, Kp, rfl, kp, sq, hk, stb, hb⟩ := stays P.ops1 q1
      exact ⟨a, vs, rfl, sq, k _ bs Kp _ _ ⟨P.env, P.aft⟩ (walks_en hk stb) kp hb⟩
/-- zip of two lists, of two tuples -/
def iZipT (d1 d2 : Den) : DenI := fun ρ => (d1 ρ).bind fun p => (d2 p.2).bind fun q => match p.1, q.1 with
  | .t (.tup xs), .t (.tup ys) => some (zipT xs ys, none, q.2)
  | l, .ref _ => none
  | l, m => (l.lview q.2).bind fun xs => (m.lview q.2).map fun ys => (zipT xs ys, l.hid q.2, q.2)
theorem SI.zip {elts : List Expr} {kk : Nat} {p tpos : Pos} (hg : Gl X "zip") (hm : X.mg "zip" = none) (h1 : SE X fa e d1) (h2 : SE X fa e2 d2) (hs : starEach [e, e2] X.env = (false, eval e X.env) :: starEach [e2] X.env) (hpl : (backTo pos (starEach [e2] X.env)).any (·.1) = false)
    (hs2 : starEach [e2] X.env = (false, eval e2 X.env) :: starEach [] X.env) : SI X fa (.Tuple elts kk tpos) (.Call (.Name "zip" p) [e, e2] [] pos) (iZipT d1 d2) := by
  refine ⟨_, RZ.pi_zipA hg hm (pa_cons h1.pe (pa_cons h2.pe pa_nil hs2) hs) hs hpl, fun σ G H ρ xs ho ρ' R E hd k => ?_⟩
  cases q : d1 ρ with
  | none => simp [iZipT, q] at hd
  | some z =>
    cases q' : d2 z.2 with
    | none => simp [iZipT, q, q'] at hd
    | some z' =>
      simp only [iZipT, q, q', Option.bind_some] at hd
      refine ⟨G, ρ, z.1, z.2, E, q, fun v G1 H1 P => ⟨G1, z.2, z'.1, z'.2, P.env, q', fun v' G2 H2 P' => ?_⟩⟩
      have O := P.then2 P'
      split at hd
      · rename_i ys ys' e1 e2
        cases hd
        have r1 := O.r1
        have r2 := O.r2
        rw [e1] at r1
        rw [e2] at r2
        cases (show Rep X.K fa G2 v _ from r1) with
        | @tup a vs _ s r =>
          cases (show Rep X.K fa G2 v' _ from r2) with
          | @tup b ws _ s' r' =>
            exact ⟨a, b, vs, ws, rfl, .inr ⟨same_sqT O.env.same (.of s), same_sqT O.env.same (.of s'), k _ _ _ _ _ O.toAt walks_zt ⟨.of s, r, .of s', r'⟩ fun b hb => by simp at hb⟩⟩
      · cases hd
      · rename_i nr nt
        cases q1 : z.1.lview z'.2 with
        | none => simp [q1] at hd
        | some ys =>
          cases q2 : z'.1.lview z'.2 with
          | none => simp [q1, q2] at hd
          | some ys' =>
            simp [q1, q2] at hd
            obtain ⟨rfl, rfl, rfl⟩ := hd
            obtain ⟨a, vs, bs, Kp, rfl, kp, sq, hk, stb, hb⟩ := stays ⟨O.toAt, O.r1, O.n1⟩ q1
            obtain ⟨a', vs', bs', Kp', rfl, kp', sq', hk', stb', hb'⟩ := stays ⟨O.toAt, O.r2, O.n2⟩ q2
            have hid2 : z'.1.hid z'.2 = none := by
              cases hz : z'.1 with
              | ref i => exact absurd hz (nr i)
              | _ => rfl
            refine ⟨a, a', vs, vs', rfl, .inl ⟨sq, sq', k _ (bs ++ bs') (fun G H => Kp G H ∧ Kp' G H) _ _ O.toAt (walks_z (vs := vs) (ws := vs') (fun G H ⟨h1, h2⟩ s => ?_) (fun C C' G H G' H' ⟨h1, h2⟩ a n => ?_)) ⟨kp, kp'⟩ fun b hbb => ?_⟩⟩
            · obtain ⟨f1, f2⟩ := hk G H h1 s
              obtain ⟨f3, f4⟩ := hk' G H h2 s
              exact ⟨f1, f2, f3, f4⟩
            · exact ⟨stb C C' G H G' H' h1 a fun b hb => n b (List.mem_append_left _ hb), stb' C C' G H G' H' h2 a fun b hb => n b (List.mem_append_right _ hb)⟩
            · rcases List.mem_append.mp hbb with h | h
              · exact hb b h
              · obtain ⟨f1, f2⟩ := hb' b h
                rw [hid2] at f2
                refine ⟨f1, fun z => f2 ?_⟩
                cases hz : z'.1 with
                | ref i => exact absurd hz (nr i)
                | _ =>
                  revert z
                  unfold hideO
                  split
                  · exact fun z => z
                  · exact fun z => Cl.hide z
end
end LW
namespace LW
open PySem PySem.Spec PyProof.Rows L2

/-! ### slots wiped and put back -/
def wipeE (ρ : REnv) : List Nat → REnv
  | [] => ρ
  | v :: vs => (wipeE ρ vs).set v .un
theorem wipeE_len (ρ : REnv) : ∀ vs : List Nat, (wipeE ρ vs).length = ρ.length
  | [] => rfl
  | v :: vs => by unfold wipeE; rw [List.length_set, wipeE_len ρ vs]
theorem wipeE_get {ρ : REnv} : ∀ {vs : List Nat} {i : Nat} {l : L}, (wipeE ρ vs)[i]? = some l → (i ∈ vs ∧ l = .un) ∨ (i ∉ vs ∧ ρ[i]? = some l)
  | [], i, l, h => .inr ⟨by simp, h⟩
  | v :: vs, i, l, h => by
    unfold wipeE at h
    rcases set_get h with ⟨rfl, z⟩ | ⟨n, z⟩
    · exact .inl ⟨List.mem_cons_self, z⟩
    · rcases wipeE_get z with ⟨h1, h2⟩ | ⟨h1, h2⟩
      · exact .inl ⟨List.mem_cons_of_mem _ h1, h2⟩
      · refine .inr ⟨fun z => ?_, h2⟩
        rcases List.mem_cons.mp z with e | e
        · exact n e
        · exact h1 e
theorem wipe_out {σ : L2.St} {vs : List Nat} {i : Nat} (h : i ∉ vs) : (wipe σ vs)[i]? = σ[i]? := by rw [wipe_get, if_neg h]
section
variable {K : PySem.W.Frag} {fa : Nat → Addr} {G H G' H' : Hp} {σ σ' : L2.St} {ρ ρ' ρ1 ρ2 : REnv}
theorem EnvOk.wipe (E : EnvOk K fa G H σ ρ) (vs : List Nat) : EnvOk K fa G H (L2.wipe σ vs) (wipeE ρ vs) := by
  refine ⟨E.same, by rw [wipeE_len, wipe_length]; exact E.len, fun i x e => ?_, fun i c e => ?_, fun i j c c' a e1 e2 e3 e4 => ?_⟩
  · rcases wipeE_get e with ⟨_, z⟩ | ⟨h1, h2⟩
    · cases z
    · rw [wipe_out h1]; exact E.t i x h2
  · rcases wipeE_get e with ⟨_, z⟩ | ⟨h1, h2⟩
    · cases z
    · rw [wipe_out h1]; exact E.own i c h2
  · rcases wipeE_get e1 with ⟨_, z⟩ | ⟨h1, h2⟩
    · cases z
    · rcases wipeE_get e2 with ⟨_, z⟩ | ⟨h3, h4⟩
      · cases z
      · rw [wipe_out h1] at e3
        rw [wipe_out h3] at e4
        exact E.inj i j c c' a h2 h4 e3 e4
theorem Cl.wipe {vs : List Nat} {a : Addr} (h : Cl (L2.wipe σ vs) (wipeE ρ vs) a) : Cl σ ρ a ∧ ∃ (i : Nat) (c : OC), i ∉ vs ∧ ρ[i]? = some (.own c) ∧ σ[i]? = some (some (.ref a)) := by
  obtain ⟨i, c, e1, e2⟩ := h
  rcases wipeE_get e1 with ⟨_, z⟩ | ⟨h1, h2⟩
  · cases z
  · rw [wipe_out h1] at e2
    exact ⟨⟨i, c, h2, e2⟩, i, c, h1, h2, e2⟩
end
def restE (ρ1 ρ2 : REnv) : List Nat → REnv
  | [] => ρ2
  | i :: ks => match ρ1[i]? with
    | some l => (restE ρ1 ρ2 ks).set i l
    | none => restE ρ1 ρ2 ks
theorem restE_len (ρ1 ρ2 : REnv) : ∀ ks : List Nat, (restE ρ1 ρ2 ks).length = ρ2.length
  | [] => rfl
  | i :: ks => by
    unfold restE
    split
    · rw [List.length_set, restE_len ρ1 ρ2 ks]
    · exact restE_len ρ1 ρ2 ks
theorem restE_get {ρ1 ρ2 : REnv} (hl : ρ1.length = ρ2.length) : ∀ {ks : List Nat} {i : Nat} {l : L}, (restE ρ1 ρ2 ks)[i]? = some l → (i ∈ ks ∧ ρ1[i]? = some l) ∨ (i ∉ ks ∧ ρ2[i]? = some l)
  | [], i, l, h => .inr ⟨by simp, h⟩
  | k :: ks, i, l, h => by
    unfold restE at h
    split at h
    · rename_i l' e
      rcases set_get h with ⟨rfl, z⟩ | ⟨n, z⟩
      · subst z
        exact .inl ⟨List.mem_cons_self, e⟩
      · rcases restE_get hl z with ⟨h1, h2⟩ | ⟨h1, h2⟩
        · exact .inl ⟨List.mem_cons_of_mem _ h1, h2⟩
        · refine .inr ⟨fun z => ?_, h2⟩
          rcases List.mem_cons.mp z with e | e
          · exact n e
          · exact h1 e
    · rename_i e
      rcases restE_get hl h with ⟨h1, h2⟩ | ⟨h1, h2⟩
      · exact .inl ⟨List.mem_cons_of_mem _ h1, h2⟩
      · refine .inr ⟨fun z => ?_, h2⟩
        rcases List.mem_cons.mp z with e' | e'
        · subst e'
          have h3 : ρ1.length ≤ i := List.getElem?_eq_none_iff.mp e
          have h4 : i < ρ2.length := (List.getElem?_eq_some_iff.mp h2).1
          omega
        · exact h1 e'

/-! ### [elt for target in iter if test] -/
def compL (vs : List Nat) (g : DenG) (dt : DenT) (de : Den) : List T → REnv → Option (List T × REnv)
  | [], ρ => some ([], ρ)
  | x :: xs, ρ => (g x ρ).bind fun ρa => (dt ρa).bind fun p =>
    if p.1 then (de p.2).bind fun q => q.1.tree.bind fun y => (compL vs g dt de xs (wipeE q.2 vs)).map fun r => (y :: r.1, r.2)
    else compL vs g dt de xs (wipeE p.2 vs)
def compD (src : DenI) (vs : List Nat) (g : DenG) (dt : DenT) (de : Den) : Den := fun ρ => (src ρ).bind fun s =>
  (compL vs g dt de s.1 (wipeE (hideO s.2.1 s.2.2) vs)).bind fun r => if r.1.length ≤ line then some (.own (.lst r.1), restE s.2.2 r.2 (s.2.1.toList ++ vs)) else none
def STs (X : Cx) (fa : Nat → Addr) (ifs : List Expr) (dt : DenT) : Prop := PTs X ifs (tDT X.K fa dt)
def dYes : DenT := fun ρ => some (true, ρ)
section
variable {X : Cx} {fa : Nat → Addr}
theorem STs.nil : STs X fa [] dYes := ⟨fun pins s σ H Q I ⟨G, ρ, b, ρ', E, hd, k⟩ => pts_nil.run pins s σ H Q I (by cases hd; exact k G H (At.start E))⟩
theorem STs.one {c : Expr} {dt : DenT} (h : ST X fa c dt) : STs X fa [c] dt := pts_one h.pt
/-- an object of one's own, outside of all slots, is changed -/
theorem At.mut {K : PySem.W.Frag} {C0 : Addr → Prop} {G0 H0 G H : Hp} {σ : L2.St} {ρ : REnv} (A : At K fa C0 G0 H0 G H σ ρ) {p : Addr} {o o' : HO} (h : H p = some o) (g : G p = none) (n : ¬ Cl σ ρ p) (nw : H0 p = none) : At K fa C0 G0 H0 G (upd H p o') σ ρ := by
  refine ⟨⟨fun b u e => ?_, A.env.len, A.env.t, fun i c e => ?_, A.env.inj⟩, ⟨A.aft.gg, fun b u e nc => ?_, A.aft.gn, fun b e => ?_, A.aft.cs⟩⟩
  · rw [upd_ne (ne_of_none e g)]; exact A.env.same b u e
  · obtain ⟨q, u, e1, e2, e3, e4⟩ := A.env.own i c e
    exact ⟨q, u, e1, e2, by rw [upd_ne (show q ≠ p from fun z => n (z ▸ ⟨i, c, e, e1⟩))]; exact e3, e4⟩
  · rw [upd_ne (ne_of_none e nw)]; exact A.aft.keep b u e nc
  · by_cases hb : b = p
    · subst hb; rw [upd_same] at e; cases e
    · rw [upd_ne hb] at e; exact A.aft.there b e
theorem mut_aft {G H : Hp} {p : Addr} {o o' : HO} (h : H p = some o) : Aft (fun a => a = p) (fun a => a = p) G H G (upd H p o') :=
  ⟨Same.refl _, fun a u e n => by rw [upd_ne n]; exact e, fun _ _ _ _ g => g, fun a e => by
    by_cases hb : a = p
    · subst hb; rw [upd_same] at e; cases e
    · rw [upd_ne hb] at e; exact e, fun _ c => .inl c⟩
theorem SE.comp {elt tg iter : Expr} {ifs : List Expr} {scope : Scope} {own : List (Str × Nat)} {pos : Pos} {src : DenI} {as : List Nat} {g : DenG} {dt : DenT} {de : Den} (hc : X.calm = true) (hN : X.N.Nodup) (hi : SI X fa tg iter src)
    (ok : BlkOk X.N X.env.scope scope own) (has : ∀ i ∈ as, i ∈ own.map (·.2))
    (hg : ∀ (s : Shared) (H : Hp) (C : Addr) (cl : List (Str × Addr)) (fp : List Addr), SG (X.blk s H scope (compEnvC scope cl C X.env) fp) fa tg as g)
    (ht : ∀ (s : Shared) (H : Hp) (C : Addr) (cl : List (Str × Addr)) (fp : List Addr), STs (X.blk s H scope (compEnvC scope cl C X.env) fp) fa ifs dt)
    (he : ∀ (s : Shared) (H : Hp) (C : Addr) (cl : List (Str × Addr)) (fp : List Addr), SE (X.blk s H scope (compEnvC scope cl C X.env) fp) fa elt de) (hs : ∀ x, foldedSetIterable iter X.env x = pure x) :
    PE X (.ListComp elt [⟨tg, iter, ifs, 0⟩] scope pos) (tD X.K fa (compD src (own.map (·.2)) g dt de)) ∧
    ∃ wi, PI X tg iter wi ∧ ∀ (σ : L2.St) (H : Hp) (Q : VK), tD X.K fa (compD src (own.map (·.2)) g dt de) σ H Q → tLc wi (tDG X.K fa as g) (tDT X.K fa dt) (tD X.K fa de) (own.map (·.2)) σ H Q := by
  obtain ⟨wi, pi, ri⟩ := hi
  have key : ∀ (σ : L2.St) (H : Hp) (Q : VK), tD X.K fa (compD src (own.map (·.2)) g dt de) σ H Q → tLc wi (tDG X.K fa as g) (tDT X.K fa dt) (tD X.K fa de) (own.map (·.2)) σ H Q := by
    rintro σ H Q ⟨G, ρ, l, ρ', E, hd, k⟩
    generalize hvs : own.map (·.2) = vs at *
    cases q0 : src ρ with
    | none => simp [compD, q0] at hd
    | some z =>
      obtain ⟨xs, ho, ρ1⟩ := z
      cases q1 : compL vs g dt de xs (wipeE (hideO ho ρ1) vs) with
      | none => simp [compD, q0, q1] at hd
      | some r =>
        obtain ⟨ys, ρ2⟩ := r
        by_cases hz : ys.length ≤ line
        · simp [compD, q0, q1, hz] at hd
          obtain ⟨rfl, rfl⟩ := hd
          refine ri σ G H ρ xs ho ρ1 _ E q0 fun J bs Kp G1 H1 A1 W kp hb D hD => ?_
          have E0 : EnvOk X.K fa G1 H1 σ (hideO ho ρ1) := by
            cases ho with
            | none => exact A1.env
            | some i => exact A1.env.hide i
          have sub0 : ∀ a, Cl σ (hideO ho ρ1) a → Cl σ ρ1 a := by
            cases ho with
            | none => exact fun a h => h
            | some i => exact fun a h => Cl.hide h
          have Ew := E0.wipe vs
          have c1sub : ∀ a, Cl (wipe σ vs) (wipeE (hideO ho ρ1) vs) a → Cl σ (hideO ho ρ1) a := fun a h => (Cl.wipe h).1
          -- D's own place
          have ncD : ¬ Cl (wipe σ vs) (wipeE (hideO ho ρ1) vs) D := (At.start Ew).noCl hD
          have gD : G1 D = none := E0.same.free hD
          refine ⟨fun i m H' => m = xs.length - i ∧ i ≤ xs.length ∧ ∃ (G' : Hp) (ρi : REnv) (acc : List V) (yd rest : List T),
            At X.K fa (Cl (wipe σ vs) (wipeE (hideO ho ρ1) vs)) G1 H1 G' H' (wipe σ vs) ρi ∧ Kp G' H' ∧ H' D = some (.lst acc) ∧ G' D = none ∧ ¬ Cl (wipe σ vs) ρi D ∧ RepAll X.K fa G' acc yd ∧
            compL vs g dt de (xs.drop i) ρi = some (rest, ρ2) ∧ yd ++ rest = ys, ⟨xs.length, by simp, Nat.zero_le _, G1, wipeE (hideO ho ρ1) vs, [], [], ys, (At.start Ew).alloc hD, ?_, upd_same, gD, ncD, .nil, by simpa using q1, rfl⟩, ?_⟩
          · -- the new list leaves what is walked
            refine W.stb (fun a => a = D) (fun a => a = D) G1 H1 G1 _ kp ⟨Same.refl _, fun a o e n => by rw [upd_ne n]; exact e, fun _ _ _ _ g => g, fun a e => ?_, fun _ c => .inl c⟩ fun b hbb z => ?_
            · by_cases hb : a = D
              · subst hb; exact hD
              · rw [upd_ne hb] at e; exact e
            · exact (hb b hbb).1 (by rw [z]; exact hD)
          · rintro i m Hi ⟨rfl, hle, Gi, ρi, acc, yd, rest, Ai, kpi, hDi, gDi, nDi, ra, hcl, hy⟩
            by_cases hlt : i < xs.length
            · have ex : xs[i]? = some xs[i] := by simp [hlt]
              obtain ⟨go, yl⟩ := W.go i Gi Hi xs[i] kpi Ai.env.same ex
              have hdrop : xs.drop i = xs[i] :: xs.drop (i + 1) := List.drop_eq_getElem_cons hlt
              rw [hdrop] at hcl
              cases qa : g xs[i] ρi with
              | none => simp [compL, qa] at hcl
              | some ρa =>
                cases qb : dt ρa with
                | none => simp [compL, qa, qb] at hcl
                | some pb =>
                  obtain ⟨b, ρb⟩ := pb
                  refine .inr ⟨go, fun H' => ∃ (G' : Hp) (ρi : REnv) (acc : List V) (yd rest : List T),
                    At X.K fa (Cl (wipe σ vs) (wipeE (hideO ho ρ1) vs)) G1 H1 G' H' (wipe σ vs) ρi ∧ Kp G' H' ∧ H' D = some (.lst acc) ∧ G' D = none ∧ ¬ Cl (wipe σ vs) ρi D ∧ RepAll X.K fa G' acc yd ∧
                    compL vs g dt de (xs.drop (i + 1)) ρi = some (rest, ρ2) ∧ yd ++ rest = ys, fun H' h => ⟨xs.length - (i + 1), by omega, rfl, hlt, h⟩, fun v H' hv => ?_⟩
                  obtain ⟨G', a1, sm, rv⟩ := yl v H' hv
                  have a1' : Aft (Cl (wipe σ vs) ρi) (Cl (wipe σ vs) ρi) Gi Hi G' H' := a1.wide fun _ h => h.elim
                  have E1 : EnvOk X.K fa G' H' (wipe σ vs) ρi := Ai.env.carry a1 sm fun _ _ h => h
                  refine ⟨G', ρi, xs[i], ρa, E1, rv, qa, fun σ2 E2 c2 s2 => ?_⟩
                  have hw : wipe σ2 vs = wipe σ vs := (s2.wiped has).trans (Slots.wiped (as := vs) ⟨wipe_length σ vs, fun j h => wipe_out h⟩ fun _ h => h)
                  refine ⟨hw, G', ρa, b, ρb, E2, qb, fun G3 H3 A3 => ?_⟩
                  have a2 : Aft (Cl (wipe σ vs) ρi) (Cl σ2 ρa) G' H' G' H' := ⟨Same.refl _, fun _ _ h _ => h, fun _ _ _ _ h => h, fun _ h => h, fun a h => .inl (c2 a h)⟩
                  have up3 := (a1'.trans a2).trans A3.aft
                  have hD3 : H3 D = some (.lst acc) := up3.keep D _ hDi nDi
                  have gD3 : G3 D = none := up3.gn D _ hDi nDi gDi
                  have nD3 : ¬ Cl σ2 ρb D := up3.ne hDi nDi
                  -- the next turn's slots
                  have nextC : ∀ (ρc : REnv) (a : Addr), Cl (wipe σ vs) (wipeE ρc vs) a → Cl σ2 ρc a := fun ρc a h => by
                    rw [← hw] at h
                    exact (Cl.wipe h).1
                  have nextE : ∀ {G H : Hp} {ρc : REnv}, EnvOk X.K fa G H σ2 ρc → EnvOk X.K fa G H (wipe σ vs) (wipeE ρc vs) := fun {G H ρc} h => by
                    have := h.wipe vs
                    rwa [hw] at this
                  have narrow : ∀ {G' H' : Hp} {ρc : REnv}, Aft (Cl (wipe σ vs) (wipeE (hideO ho ρ1) vs)) (Cl σ2 ρc) G1 H1 G' H' → Aft (Cl (wipe σ vs) (wipeE (hideO ho ρ1) vs)) (Cl (wipe σ vs) (wipeE ρc vs)) G1 H1 G' H' := fun {G' H' ρc} h =>
                    ⟨h.gg, h.keep, h.gn, h.there, fun a z => h.cs a (nextC ρc a z)⟩
                  have bsN : ∀ b ∈ bs, ¬ Cl (wipe σ vs) ρi b := fun b hbb => by
                    obtain ⟨f1, f2⟩ := hb b hbb
                    cases q : H1 b with
                    | none => exact absurd q f1
                    | some o => exact Ai.aft.ne q fun z => f2 (c1sub b z)
                  cases b with
                  | false =>
                    simp [compL, qa, qb] at hcl
                    refine iteF ⟨G3, wipeE ρb vs, acc, yd, rest, ⟨nextE A3.env, narrow (Ai.aft.trans up3)⟩, W.stb _ _ _ _ _ _ kpi up3 bsN, hD3, gD3, fun z => nD3 (nextC _ _ z), ra.mono up3.gg, hcl, hy⟩
                  | true =>
                    simp [compL, qa, qb] at hcl
                    cases qc : de ρb with
                    | none => simp [qc] at hcl
                    | some pc =>
                      obtain ⟨le, ρc⟩ := pc
                      cases qt : le.tree with
                      | none => simp [qc, qt] at hcl
                      | some y =>
                        cases qr : compL vs g dt de (xs.drop (i + 1)) (wipeE ρc vs) with
                        | none => simp [qc, qt, qr] at hcl
                        | some rr =>
                          simp [qc, qt, qr] at hcl
                          obtain ⟨rfl, rfl⟩ := hcl
                          refine iteT ⟨G3, ρb, le, ρc, A3.env, qc, fun v4 G4 H4 P4 => ?_⟩
                          obtain ⟨G5, E5, R5, A5, sm5, _⟩ := toTree P4.env P4.rep P4.new P4.aft qt
                          have up5 := up3.trans A5
                          have hD5 : H4 D = some (.lst acc) := up5.keep D _ hDi nDi
                          have gD5 : G5 D = none := up5.gn D _ hDi nDi gDi
                          have nD5 : ¬ Cl σ2 ρc D := up5.ne hDi nDi
                          have hlen : acc.length < sizeLine := by
                            rw [← line_eq]
                            have h1 := ra.length
                            rw [← hy] at hz
                            simp at hz
                            omega
                          have At5 : At X.K fa (Cl (wipe σ vs) (wipeE (hideO ho ρ1) vs)) G1 H1 G5 H4 (wipe σ vs) (wipeE ρc vs) := ⟨nextE E5, narrow (Ai.aft.trans up5)⟩
                          refine ⟨acc, hD5, hlen, G5, wipeE ρc vs, acc ++ [v4], yd ++ [y], rr.1, At5.mut hD5 gD5 (fun z => nD5 (nextC _ _ z)) hD, ?_, upd_same, gD5, fun z => nD5 (nextC _ _ z), (ra.mono up5.gg).append (.one R5), qr, by simpa using hy⟩
                          refine W.stb _ _ _ _ _ _ (W.stb _ _ _ _ _ _ kpi up5 bsN) (mut_aft hD5) fun b hbb z => ?_
                          exact (hb b hbb).1 (by rw [z]; exact hD)
            · have hi : i = xs.length := by omega
              subst hi
              simp [compL] at hcl
              obtain ⟨rfl, rfl⟩ := hcl
              rw [List.append_nil] at hy
              subst hy
              refine .inl ⟨W.stop _ Gi Hi kpi Ai.env.same (Nat.le_refl _), k _ Gi Hi ?_⟩
              -- back to all slots
              have lenE : ρ1.length = ρi.length := by rw [A1.env.len, Ai.env.len, wipe_length]
              have ownK : ∀ (j : Nat) (c : OC) (a : Addr), j ∈ ho.toList ++ vs → ρ1[j]? = some (.own c) → σ[j]? = some (some (.ref a)) → ¬ Cl (wipe σ vs) (wipeE (hideO ho ρ1) vs) a := fun j c a hj e1 e2 h => by
                obtain ⟨_, j', c', n', f1, f2⟩ := Cl.wipe h
                have f1' : ρ1[j']? = some (.own c') ∧ ho ≠ some j' := by
                  cases ho with
                  | none => exact ⟨f1, by simp⟩
                  | some t =>
                    have f1 : (ρ1.set t .un)[j']? = some (.own c') := f1
                    rcases set_get f1 with ⟨_, z⟩ | ⟨n, z⟩
                    · cases z
                    · exact ⟨z, fun e => n (by cases e; rfl)⟩
                have : j = j' := A1.env.inj j j' c c' a e1 f1'.1 e2 f2
                subst this
                rcases List.mem_append.mp hj with z | z
                · cases ho with
                  | none => simp at z
                  | some t => simp at z; subst z; exact f1'.2 rfl
                · exact n' z
              have someOf : ∀ (j : Nat) (c : OC) (a : Addr), ρ1[j]? = some (.own c) → σ[j]? = some (some (.ref a)) → ∃ o, H1 a = some o := fun j c a e1 e2 => by
                obtain ⟨p, o, f1, f2, f3, f4⟩ := A1.env.own j c e1
                rw [e2] at f1; cases f1
                exact ⟨o, f3⟩
              have csub : ∀ a, Cl σ (restE ρ1 ρi (ho.toList ++ vs)) a → Cl σ ρ1 a ∨ Cl (wipe σ vs) ρi a := fun a ⟨j, c, e1, e2⟩ => by
                rcases restE_get lenE e1 with ⟨h1, h2⟩ | ⟨h1, h2⟩
                · exact .inl ⟨j, c, h2, e2⟩
                · refine .inr ⟨j, c, h2, ?_⟩
                  rw [wipe_out fun z => h1 (List.mem_append_right _ z)]
                  exact e2
              have upA : Aft (Cl σ ρ1) (Cl σ (restE ρ1 ρi (ho.toList ++ vs))) G1 H1 Gi Hi :=
                ⟨Ai.aft.gg, fun a o e n => Ai.aft.keep a o e fun z => n (sub0 a (c1sub a z)), fun a o e n g => Ai.aft.gn a o e (fun z => n (sub0 a (c1sub a z))) g, Ai.aft.there, fun a h => by
                  rcases csub a h with z | z
                  · exact .inl z
                  · rcases Ai.aft.cs a z with y | y
                    · exact .inl (sub0 a (c1sub a y))
                    · exact .inr y⟩
              refine ⟨A1.aft.trans upA, ⟨Ai.env.same, by rw [restE_len, ← lenE]; exact A1.env.len, fun j x e => ?_, fun j c e => ?_, fun j j' c c' a e1 e2 e3 e4 => ?_⟩, ⟨D, .lst acc, rfl, gDi, fun z => ?_, hDi, ra⟩, fun a e => ?_⟩
              · rcases restE_get lenE e with ⟨h1, h2⟩ | ⟨h1, h2⟩
                · obtain ⟨v, f1, f2⟩ := A1.env.t j x h2
                  exact ⟨v, f1, f2.mono Ai.aft.gg⟩
                · obtain ⟨v, f1, f2⟩ := Ai.env.t j x h2
                  rw [wipe_out fun z => h1 (List.mem_append_right _ z)] at f1
                  exact ⟨v, f1, f2⟩
              · rcases restE_get lenE e with ⟨h1, h2⟩ | ⟨h1, h2⟩
                · obtain ⟨a, o, f1, f2, f3, f4⟩ := A1.env.own j c h2
                  have nc := ownK j c a h1 h2 f1
                  exact ⟨a, o, f1, Ai.aft.gn a o f3 nc f2, Ai.aft.keep a o f3 nc, f4.mono Ai.aft.gg⟩
                · obtain ⟨a, o, f1, f2⟩ := Ai.env.own j c h2
                  rw [wipe_out fun z => h1 (List.mem_append_right _ z)] at f1
                  exact ⟨a, o, f1, f2⟩
              · have cross : ∀ (j j' : Nat) (c c' : OC), j ∈ ho.toList ++ vs → ρ1[j]? = some (.own c) → σ[j]? = some (some (.ref a)) → j' ∉ ho.toList ++ vs → ρi[j']? = some (.own c') → σ[j']? = some (some (.ref a)) → False := fun j j' c c' h1 h2 h3 h4 h5 h6 => by
                  have cl : Cl (wipe σ vs) ρi a := ⟨j', c', h5, by rw [wipe_out fun z => h4 (List.mem_append_right _ z)]; exact h6⟩
                  rcases Ai.aft.cs a cl with z | z
                  · exact ownK j c a h1 h2 h3 z
                  · obtain ⟨o, f⟩ := someOf j c a h2 h3
                    rw [z] at f; cases f
                rcases restE_get lenE e1 with ⟨h1, h2⟩ | ⟨h1, h2⟩
                · rcases restE_get lenE e2 with ⟨h3, h4⟩ | ⟨h3, h4⟩
                  · exact A1.env.inj j j' c c' a h2 h4 e3 e4
                  · exact (cross j j' c c' h1 h2 e3 h3 h4 e4).elim
                · rcases restE_get lenE e2 with ⟨h3, h4⟩ | ⟨h3, h4⟩
                  · exact (cross j' j c' c h3 h4 e4 h1 h2 e3).elim
                  · refine Ai.env.inj j j' c c' a h2 h4 ?_ ?_
                    · rw [wipe_out fun z => h1 (List.mem_append_right _ z)]; exact e3
                    · rw [wipe_out fun z => h3 (List.mem_append_right _ z)]; exact e4
              · rcases csub D z with z | z
                · obtain ⟨j, c, f1, f2⟩ := z
                  obtain ⟨o, f⟩ := someOf j c D f1 f2
                  rw [hD] at f; cases f
                · exact nDi z
              · cases e
                exact A1.aft.there D hD
        · simp [compD, q0, q1, hz] at hd
  have pg : ∀ (s : Shared) (H : Hp) (C : Addr) (cl : List (Str × Addr)) (fp : List Addr), PG (X.blk s H scope (compEnvC scope cl C X.env) fp) tg (tDG X.K fa as g) := hg
  have pt : ∀ (s : Shared) (H : Hp) (C : Addr) (cl : List (Str × Addr)) (fp : List Addr), PTs (X.blk s H scope (compEnvC scope cl C X.env) fp) ifs (tDT X.K fa dt) := ht
  have pe : ∀ (s : Shared) (H : Hp) (C : Addr) (cl : List (Str × Addr)) (fp : List Addr), PE (X.blk s H scope (compEnvC scope cl C X.env) fp) elt (tD X.K fa de) := fun s H C cl fp => (he s H C cl fp).pe
  exact ⟨⟨fun pins s σ H Q I h => (pe_lc hc hN pi ok pg pt pe hs).run pins s σ H Q I (key σ H Q h)⟩, wi, pi, key⟩
theorem SE.of {e : Expr} {d : Den} (h : PE X e (tD X.K fa d)) : SE X fa e d := ⟨_, h, SE.rd _ rfl⟩
end
end LW
namespace LW
open PySem PySem.Spec PyProof.Rows L2

/-! ### defs: what they are worth -/
abbrev DenF := List L → Option (L × List L)
/-- the promise of a def of n parameters -/
def spM (K : PySem.W.Frag) (fa : Nat → Addr) (n : Nat) (m : DenF) : Sp := fun vs H Q _ => vs.length = n ∧ ∃ (G : Hp) (ls : List L) (r : L) (ls' : List L),
  EnvOk K fa G H (vs.map some) ls ∧ m ls = some (r, ls') ∧ ∀ v G' H', Post K fa G H (vs.map some) ls r ls' v G' H' → Q v H'
/-- trees in, a result out -/
def allT : List L → Option (List T)
  | [] => some []
  | .t x :: ls => (allT ls).map fun xs => x :: xs
  | _ :: _ => none
/-- what a def may hand back -/
def nor : L → Option L
  | .t x => some (.t x)
  | .own c => some (.own c)
  | _ => none
theorem nor_inv {l r : L} (h : nor l = some r) : r = l ∧ ∀ i, r ≠ .ref i := by
  cases l <;> cases h <;> exact ⟨rfl, fun i z => by cases z⟩
def pureF (f : List T → Option L) : DenF := fun ls => (allT ls).bind fun ts => (f ts).map fun r => (r, ls)
/-- a list that is changed, then trees -/
def feedF (g : List T → List T → Option (L × List T)) : DenF := fun ls => match ls with
  | .own (.lst xs) :: r => (allT r).bind fun ts => (g xs ts).map fun p => (p.1, .own (.lst p.2) :: r)
  | _ => none
theorem allT_map : ∀ ts : List T, allT (ts.map L.t) = some ts
  | [] => rfl
  | t :: ts => by simp [allT, allT_map ts]
theorem allT_inv : ∀ {ls : List L} {ts : List T}, allT ls = some ts → ls = ts.map L.t
  | [], ts, h => by cases h; rfl
  | l :: ls, ts, h => by
    cases l with
    | t x =>
      cases q : allT ls with
      | none => simp [allT, q] at h
      | some xs =>
        simp [allT, q] at h
        subst h
        rw [allT_inv q]
        rfl
    | _ => cases h
/-- a def that is there to be called: the facts that every context with the same module has -/
structure Fn (P : Program) (w : World) (K : PySem.W.Frag) (mg : Str → Option Value) (base : Heap) (fa : Nat → Addr) (k : Nat) (x : Str) (n : Nat) (m : DenF) : Prop where
  ex : ∃ (f : Addr) (fd : FuncData) (ps : List Str), FnOk P w K mg base CX0 k f fd ps (spM K fa n m) ∧ mg x = some (.ref f) ∧ PySem.W.keepIn K (.ref f) = true ∧ Binds K fd ps []
theorem Fn.mono {P : Program} {w : World} {K : PySem.W.Frag} {mg : Str → Option Value} {base : Heap} {fa : Nat → Addr} {j k : Nat} {x : Str} {n : Nat} {m : DenF} (F : Fn P w K mg base fa j x n m) (h : j ≤ k) : Fn P w K mg base fa k x n m := by
  obtain ⟨f, fd, ps, h1, h2, h3, h4⟩ := F.ex
  exact ⟨f, fd, ps, h1.mono h, h2, h3, h4⟩
section
variable {K : PySem.W.Frag} {fa : Nat → Addr} {G H G' H' : Hp} {σ : L2.St} {ρ : REnv}
theorem env_ts {vs : List V} {ts : List T} (s : Same G H) (r : RepAll K fa G vs ts) : EnvOk K fa G H (vs.map some) (ts.map L.t) := by
  refine ⟨s, by rw [List.length_map, List.length_map, r.length], fun i x e => ?_, fun i c e => ?_, fun i j c c' a e => ?_⟩
  · rw [List.getElem?_map] at e
    cases q : ts[i]? with
    | none => rw [q] at e; cases e
    | some y =>
      rw [q] at e
      cases e
      obtain ⟨v, h1, h2⟩ := r.get q
      exact ⟨v, by rw [List.getElem?_map, h1]; rfl, h2⟩
  · rw [List.getElem?_map] at e
    cases q : ts[i]? <;> rw [q] at e <;> cases e
  · rw [List.getElem?_map] at e
    cases q : ts[i]? <;> rw [q] at e <;> cases e
theorem cl_ts {σ : L2.St} {ts : List T} {a : Addr} (h : Cl σ (ts.map L.t) a) : False := by
  obtain ⟨i, c, e, _⟩ := h
  rw [List.getElem?_map] at e
  cases q : ts[i]? <;> rw [q] at e <;> cases e
/-- a list first, then trees -/
theorem env_feed {vs : List V} {ts xs : List T} {a : Addr} {ws : List V} (s : Same G H) (r : RepAll K fa G vs ts) (g : G a = none) (h : H a = some (.lst ws)) (rx : RepAll K fa G ws xs) :
    EnvOk K fa G H ((V.ref a :: vs).map some) (.own (.lst xs) :: ts.map L.t) := by
  have E := env_ts s r
  refine ⟨s, by simp [r.length], fun i x e => ?_, fun i c e => ?_, fun i j c c' b e1 e2 e3 e4 => ?_⟩
  · cases i with
    | zero => cases e
    | succ i => exact E.t i x e
  · cases i with
    | zero => cases e; exact ⟨a, .lst ws, rfl, g, h, rx⟩
    | succ i =>
      obtain ⟨p, o, h1, h2⟩ := E.own i c e
      exact ⟨p, o, h1, h2⟩
  · cases i with
    | zero =>
      cases j with
      | zero => rfl
      | succ j => exact (cl_ts (σ := vs.map some) ⟨j, c', e2, e4⟩).elim
    | succ i => exact (cl_ts (σ := vs.map some) ⟨i, c, e1, e3⟩).elim
end
section
variable {X : Cx} {fa : Nat → Addr} {e : Expr} {es : List Expr} {pos p : Pos} {x : Str} {n k : Nat}
def dCallP (n : Nat) (f : List T → Option L) (da : DenA) : Den := fun ρ => (da ρ).bind fun p => if p.1.length = n then (f p.1).bind fun r => (nor r).map fun r => (r, p.2) else none
theorem new_out {K : PySem.W.Frag} {G G1 H1 G' H' : Hp} {σ σ' : L2.St} {ρ ρ2 : REnv} {C : Addr → Prop} {v : V} {r : L} (E : EnvOk K fa G1 H1 σ ρ) (h : LRep K fa G' H' C σ' v r) (nr : ∀ i, r ≠ .ref i) (nw : NewL H1 v r) (sub : ∀ a, Cl σ ρ2 a → Cl σ ρ a) : LRep K fa G' H' (Cl σ ρ2) σ v r := by
  cases r with
  | un => exact h
  | t y => exact h
  | own c =>
    obtain ⟨pa, o, rfl, gp, nc, hh, ro⟩ := h
    refine ⟨pa, o, rfl, gp, fun hc => ?_, hh, ro⟩
    have hn : H1 pa = none := nw pa rfl
    obtain ⟨j, c', f1, f2⟩ := sub _ hc
    obtain ⟨a', o', u1, u2, u3, u4⟩ := E.own j c' f1
    rw [f2] at u1; cases u1
    rw [hn] at u3; cases u3
  | ref j => exact absurd rfl (nr j)
theorem SE.callP {f : List T → Option L} {da : DenA} (F : Fn X.prog X.w X.K X.mg X.base fa k x n (pureF f)) (hr : Room k X.A) (hg : Gl X x) (ha : SA X fa (e :: es) da)
    (hdb : (x == ("__debug__" : Str)) = false) (he : starEach (e :: es) X.env = (false, eval e X.env) :: starEach es X.env) (hpl : (backTo pos (starEach es X.env)).any (·.1) = false) :
    SE X fa (.Call (.Name x p) (e :: es) [] pos) (dCallP n f da) := by
  obtain ⟨fA, fd, ps, h1, h2, h3, h4⟩ := F.ex
  obtain ⟨t, pt, rt⟩ := ha
  refine ⟨_, pe_call h1 hr hg h2 h3 h4 .nil pass0 pt hdb he hpl, fun σ G H ρ l ρ' Q E hd kk => ?_⟩
  cases q : da ρ with
  | none => simp [dCallP, q] at hd
  | some z =>
    by_cases hz : z.1.length = n
    · cases q1 : f z.1 with
      | none => simp [dCallP, q, q1, hz] at hd
      | some r =>
        cases q2 : nor r with
        | none => simp [dCallP, q, q1, hz, q2] at hd
        | some r2 =>
          simp [dCallP, q, q1, hz, q2] at hd
          obtain ⟨rfl, rfl⟩ := hd
          obtain ⟨rfl, nr⟩ := nor_inv q2
          refine rt σ G H ρ z.1 z.2 _ E q fun vs G1 H1 A1 R1 => ?_
          show spM X.K fa n (pureF f) (vs ++ []) H1 Q E0
          rw [List.append_nil]
          refine ⟨by rw [R1.length]; exact hz, G1, z.1.map L.t, r2, z.1.map L.t, env_ts A1.env.same R1, by simp [pureF, allT_map, q1], fun v G' H' P => ?_⟩
          have a2 : Aft (Cl σ z.2) (Cl σ z.2) G1 H1 G' H' := P.aft.wide fun b hb => (cl_ts hb).elim
          have E2 : EnvOk X.K fa G' H' σ z.2 := A1.env.carry P.aft P.env.same fun b _ hb => cl_ts hb
          exact kk v G' H' ⟨A1.aft.trans a2, E2, new_out (G := G) A1.env P.rep nr P.new fun _ h => h, P.new.aft A1.aft⟩
    · simp [dCallP, q, hz] at hd
/-- .. with a list at a slot that is changed -/
def isOwnL (ρ : REnv) (i : Nat) : Bool := match ρ[i]? with
  | some (.own (.lst _)) => true
  | _ => false
theorem isOwnL_inv {ρ : REnv} {i : Nat} (h : isOwnL ρ i = true) : ∃ xs, ρ[i]? = some (.own (.lst xs)) := by
  unfold isOwnL at h
  split at h
  · rename_i xs e
    exact ⟨xs, e⟩
  · cases h
def dCallF (n i : Nat) (g : List T → List T → Option (L × List T)) (da : DenA) : Den := fun ρ => if isOwnL ρ i then (da ρ).bind fun p => if p.1.length + 1 = n then (match p.2[i]? with
  | some (.own (.lst xs)) => (g xs p.1).bind fun r => (nor r.1).map fun l => (l, p.2.set i (.own (.lst r.2)))
  | _ => none) else none else none
theorem SE.callF {g : List T → List T → Option (L × List T)} {da : DenA} {i : Nat} {y : Str} {py : Pos} (F : Fn X.prog X.w X.K X.mg X.base fa k x n (feedF g)) (hr : Room k X.A) (hg : Gl X x)
    (hN : X.N[i]? = some y) (hv : Vis X.env.scope y) (hd : (y == ("__debug__" : Str)) = false) (hcd : (y == ("__classdict__" : Str)) = false) (ha : SA X fa es da)
    (hdb : (x == ("__debug__" : Str)) = false) (he : starEach (.Name y py :: es) X.env = (false, eval (.Name y py) X.env) :: starEach es X.env) (hpl : (backTo pos (starEach es X.env)).any (·.1) = false) :
    SE X fa (.Call (.Name x p) (.Name y py :: es) [] pos) (dCallF n i g da) := by
  obtain ⟨fA, fd, ps, h1, h2, h3, h4⟩ := F.ex
  obtain ⟨t, pt, rt⟩ := ha
  refine ⟨_, pe_call h1 hr hg h2 h3 h4 .nil pass0 (pa_cons (pe_var hN hv hd hcd) pt he) hdb he hpl, fun σ G H ρ l ρ' Q E hdd kk => ?_⟩
  by_cases ho : isOwnL ρ i = true
  · cases q : da ρ with
    | none => simp [dCallF, q, ho] at hdd
    | some z =>
      by_cases hz : z.1.length + 1 = n
      · cases q2 : z.2[i]? with
        | none => simp [dCallF, q, q2, ho, hz] at hdd
        | some m =>
          cases m with
          | own c =>
            cases c with
            | lst xs =>
              cases q1 : g xs z.1 with
              | none => simp [dCallF, q, q2, q1, ho, hz] at hdd
              | some r =>
                obtain ⟨r, xs'⟩ := r
                cases q3 : nor r with
                | none => simp [dCallF, q, q2, q1, ho, hz, q3] at hdd
                | some r2 =>
                  simp [dCallF, q, q2, q1, ho, hz, q3] at hdd
                  obtain ⟨rfl, rfl⟩ := hdd
                  obtain ⟨rfl, nr⟩ := nor_inv q3
                  obtain ⟨c', hc'⟩ := isOwnL_inv ho
                  obtain ⟨a0, o0, e0, _⟩ := E.own i _ hc'
                  refine ⟨_, e0, ?_⟩
                  refine rt σ G H ρ z.1 z.2 _ E q fun vs G1 H1 A1 R1 => ?_
                  show spM X.K fa n (feedF g) ((V.ref a0 :: vs) ++ []) H1 Q E0
                  rw [List.append_nil]
                  obtain ⟨a1, o1, e1, g1, hh1, ro1⟩ := A1.env.own i _ q2
                  rw [e0] at e1
                  cases e1
                  cases o1 with
                  | lst ws =>
                    have EF := env_feed (xs := xs) A1.env.same R1 g1 hh1 ro1
                    refine ⟨by rw [List.length_cons, R1.length]; exact hz, G1, .own (.lst xs) :: z.1.map L.t, r2, .own (.lst xs') :: z.1.map L.t, EF, by simp [feedF, allT_map, q1], fun v G' H' P => ?_⟩
                    have cF : ∀ b, Cl ((V.ref a0 :: vs).map some) (.own (.lst xs) :: z.1.map L.t) b → b = a0 := fun b hb => by
                      obtain ⟨j, c, f1, f2⟩ := hb
                      cases j with
                      | zero => cases f2; rfl
                      | succ j => exact (cl_ts (σ := vs.map some) ⟨j, c, f1, f2⟩).elim
                    have hcl : Cl σ z.2 a0 := ⟨i, _, q2, e0⟩
                    have a2 : Aft (Cl σ z.2) (Cl σ z.2) G1 H1 G' H' := P.aft.wide fun b hb => by rw [cF b hb]; exact hcl
                    obtain ⟨a3, o3, e3, g3, hh3, ro3⟩ := P.env.own 0 (.lst xs') rfl
                    have e3' : some (some (V.ref a0)) = some (some (V.ref a3)) := e3
                    cases e3'
                    have hi : i < σ.length := (List.getElem?_eq_some_iff.mp e0).1
                    have hiρ : i < z.2.length := (List.getElem?_eq_some_iff.mp q2).1
                    -- the caller's slots behind the call
                    have clE : ∀ b, Cl σ (z.2.set i (.own (.lst xs'))) b → Cl σ z.2 b := fun b ⟨j, c, f1, f2⟩ => by
                      rcases set_get f1 with ⟨rfl, _⟩ | ⟨_, f⟩
                      · rw [e0] at f2; cases f2; exact hcl
                      · exact ⟨j, c, f, f2⟩
                    have E2 : EnvOk X.K fa G' H' σ (z.2.set i (.own (.lst xs'))) := by
                      refine ⟨P.env.same, by simp [A1.env.len], fun j y e => ?_, fun j c e => ?_, fun j j' c c' b f1 f2 f3 f4 => ?_⟩
                      · rcases set_get e with ⟨_, z⟩ | ⟨_, f⟩
                        · cases z
                        · obtain ⟨v, u1, u2⟩ := A1.env.t j y f
                          exact ⟨v, u1, u2.mono P.aft.gg⟩
                      · rcases set_get e with ⟨rfl, z⟩ | ⟨nj, f⟩
                        · cases z
                          exact ⟨a0, o3, e0, g3, hh3, ro3⟩
                        · obtain ⟨b, o, u1, u2, u3, u4⟩ := A1.env.own j c f
                          have nb : ¬ Cl ((V.ref a0 :: vs).map some) (.own (.lst xs) :: z.1.map L.t) b := fun hb => by
                            rw [cF b hb] at u1
                            exact nj (A1.env.inj j i _ _ a0 f q2 u1 e0)
                          exact ⟨b, o, u1, P.aft.gn b o u3 nb u2, P.aft.keep b o u3 nb, u4.mono P.aft.gg⟩
                      · have key : ∀ (j : Nat) (c : OC), (z.2.set i (L.own (.lst xs')))[j]? = some (.own c) → ∃ c', z.2[j]? = some (.own c') := fun j c f => by
                          rcases set_get f with ⟨rfl, _⟩ | ⟨_, f⟩
                          · exact ⟨_, q2⟩
                          · exact ⟨c, f⟩
                        obtain ⟨d1, k1⟩ := key j c f1
                        obtain ⟨d2, k2⟩ := key j' c' f2
                        exact A1.env.inj j j' d1 d2 b k1 k2 f3 f4
                    exact kk v G' H' ⟨(A1.aft.trans a2).trans ⟨Same.refl _, fun _ _ h _ => h, fun _ _ _ _ h => h, fun _ h => h, fun b hb => .inl (clE b hb)⟩, E2, new_out (G := G) A1.env P.rep nr P.new clE, P.new.aft A1.aft⟩
                  | _ => exact (show False from ro1).elim
            | _ => simp [dCallF, q, q2, ho, hz] at hdd
          | _ => simp [dCallF, q, q2, ho, hz] at hdd
      · simp [dCallF, q, ho, hz] at hdd
  · simp [dCallF, ho] at hdd
/-- an expression over the slots' own lists as they stand: nothing of them may be in what comes out -/
def frzL : L → L
  | .own (.lst xs) => .t (.lst xs)
  | .own _ => .un
  | l => l
def frzE (ρ : REnv) : REnv := ρ.map frzL
mutual
def T.noL : T → Bool
  | .lst _ => false
  | .lkl _ => false
  | .dic _ _ _ => false
  | .tup xs => T.noLs xs
  | _ => true
def T.noLs : List T → Bool
  | [] => true
  | x :: xs => T.noL x && T.noLs xs
end
def L.noL : L → Bool
  | .t x => x.noL
  | .own (.lst xs) => T.noLs xs
  | _ => false
def dBor (d : Den) : Den := fun ρ => (d (frzE ρ)).bind fun p => if p.1.noL then some (p.1, ρ) else none
mutual
theorem Rep.less {K : PySem.W.Frag} {G G' H : Hp} {C : Addr → Prop} (s : Same G' H) (hC : ∀ a, C a → ∃ vs, H a = some (.lst vs)) (hG : ∀ a o, G' a = some o → ¬ C a → G a = some o) : ∀ {x : T} {v : V}, x.noL = true → Rep K fa G' v x → Rep K fa G v x
  | .non, _, _, h => by cases h; exact .non
  | .bl b, _, _, h => by cases h; exact .bl b
  | .int i, _, _, h => by cases h; exact .int i
  | .str x, _, _, h => by cases h; exact .str x
  | .lst _, _, n, _ => by simp [T.noL] at n
  | .lkl _, _, n, _ => by simp [T.noL] at n
  | .dic _ _ _, _, n, _ => by simp [T.noL] at n
  | .fn k, _, _, h => by cases h; exact .fn k
  | .tup xs, _, n, h => by
    cases h with
    | tup e r =>
      refine .tup ?_ (RepAll.less s hC hG (by simpa only [T.noL] using n) r)
      have key : ∀ (a : Addr) (o : HO), G' a = some o → (∀ vs, o ≠ .lst vs) → G a = some o := fun a o e ne => hG a o e fun c => by
        obtain ⟨vs, hv⟩ := hC a c
        rw [s a o e] at hv
        cases hv
        exact ne vs rfl
      exact key _ _ e fun vs z => by cases z
theorem RepAll.less {K : PySem.W.Frag} {G G' H : Hp} {C : Addr → Prop} (s : Same G' H) (hC : ∀ a, C a → ∃ vs, H a = some (.lst vs)) (hG : ∀ a o, G' a = some o → ¬ C a → G a = some o) : ∀ {xs : List T} {vs : List V}, T.noLs xs = true → RepAll K fa G' vs xs → RepAll K fa G vs xs
  | [], _, _, h => by cases h; exact .nil
  | x :: xs, _, n, h => by
    simp only [T.noLs, Bool.and_eq_true] at n
    cases h with
    | cons a b => exact .cons (Rep.less s hC hG n.1 a) (RepAll.less s hC hG n.2 b)
end
open Classical in
theorem bor_read {d : Den} {t : TE} (rt : Rd1 X fa t d) : Rd1 X fa t (dBor d) := by
  intro σ G H ρ l ρ' Q E hd kk
  cases q : d (frzE ρ) with
  | none => simp [dBor, q] at hd
  | some z =>
    by_cases hn : z.1.noL = true
    · simp [dBor, q, hn] at hd
      obtain ⟨rfl, rfl⟩ := hd
      -- the frozen part with the slots' own lists
      let C : Addr → Prop := fun a => ∃ (i : Nat) (xs : List T), ρ[i]? = some (.own (.lst xs)) ∧ σ[i]? = some (some (.ref a))
      have hCl : ∀ a, C a → Cl σ ρ a := fun a ⟨i, xs, e1, e2⟩ => ⟨i, _, e1, e2⟩
      let G1 : Hp := fun a => if C a then H a else G a
      have gC : ∀ a, C a → G1 a = H a := fun a h => if_pos h
      have gN : ∀ a, ¬ C a → G1 a = G a := fun a h => if_neg h
      have cG : ∀ a, Cl σ ρ a → G a = none ∧ ∃ o, H a = some o := fun a ⟨i, c, e1, e2⟩ => by
        obtain ⟨p, o, f1, f2, f3, f4⟩ := E.own i c e1
        rw [e2] at f1; cases f1
        exact ⟨f2, o, f3⟩
      have sm : Same G G1 := fun a o e => by
        by_cases hc : C a
        · rw [(cG a (hCl a hc)).1] at e; cases e
        · rw [gN a hc]; exact e
      have fz : ∀ (i : Nat) (l : L), (frzE ρ)[i]? = some l → ∃ l0, ρ[i]? = some l0 ∧ l = frzL l0 := fun i l e => by
        unfold frzE at e
        rw [List.getElem?_map] at e
        cases q : ρ[i]? with
        | none => rw [q] at e; cases e
        | some l0 => rw [q] at e; cases e; exact ⟨l0, rfl, rfl⟩
      have noOwn : ∀ (i : Nat) (c : OC), (frzE ρ)[i]? = some (.own c) → False := fun i c e => by
        obtain ⟨l0, h1, h2⟩ := fz i _ e
        cases l0 with
        | own c0 => cases c0 <;> cases h2
        | _ => cases h2
      have E1 : EnvOk X.K fa G1 H σ (frzE ρ) := by
        refine ⟨fun a o e => ?_, by simp [frzE, E.len], fun i x e => ?_, fun i c e => ?_, fun i j c c' a e1 e2 e3 e4 => ?_⟩
        · by_cases hc : C a
          · rw [gC a hc] at e; exact e
          · rw [gN a hc] at e; exact E.same a o e
        · obtain ⟨l0, h1, h2⟩ := fz i _ e
          cases l0 with
          | t y =>
            cases h2
            obtain ⟨v, f1, f2⟩ := E.t i _ h1
            exact ⟨v, f1, f2.mono sm⟩
          | own c =>
            cases c with
            | lst xs =>
              cases h2
              obtain ⟨p, o, f1, f2, f3, f4⟩ := E.own i _ h1
              cases o with
              | lst vs =>
                exact ⟨_, f1, .lst (by rw [gC p ⟨i, xs, h1, f1⟩]; exact f3) (RepAll.mono sm f4)⟩
              | _ => exact (show False from f4).elim
            | dK _ => cases h2
            | dT _ => cases h2
          | _ => cases h2
        · exact (noOwn i c e).elim
        · exact (noOwn i c e1).elim
      have cl0 : ∀ a, ¬ Cl σ (frzE ρ) a := fun a ⟨i, c, e, _⟩ => noOwn i c e
      refine rt σ G1 H (frzE ρ) z.1 z.2 Q E1 q fun v G2 H2 P => ?_
      have hC2 : ∀ a, Cl σ ρ a → ∃ o, H a = some o ∧ H2 a = some o := fun a h => by
        obtain ⟨_, o, e⟩ := cG a h
        exact ⟨o, e, P.aft.keep a o e (cl0 a)⟩
      let G3 : Hp := fun a => if C a then none else G2 a
      have g3C : ∀ a, C a → G3 a = none := fun a h => if_pos h
      have g3N : ∀ a, ¬ C a → G3 a = G2 a := fun a h => if_neg h
      have s13 : Same G G3 := fun a o e => by
        by_cases hc : C a
        · rw [(cG a (hCl a hc)).1] at e; cases e
        · rw [g3N a hc]; exact P.aft.gg a o (sm a o e)
      have g3none : ∀ a o, H a = some o → G a = none → G3 a = none := fun a o e g => by
        by_cases hc : C a
        · exact g3C a hc
        · rw [g3N a hc]
          exact P.aft.gn a o e (cl0 a) (by rw [gN a hc]; exact g)
      have E3 : EnvOk X.K fa G3 H2 σ ρ := by
        refine ⟨fun a o e => ?_, E.len, fun i x e => ?_, fun i c e => ?_, E.inj⟩
        · by_cases hc : C a
          · rw [g3C a hc] at e; cases e
          · rw [g3N a hc] at e; exact P.env.same a o e
        · obtain ⟨w, f1, f2⟩ := E.t i x e
          exact ⟨w, f1, f2.mono s13⟩
        · obtain ⟨p, o, f1, f2, f3, f4⟩ := E.own i c e
          exact ⟨p, o, f1, g3none p o f3 f2, P.aft.keep p o f3 (cl0 p), f4.mono s13⟩
      have hCl2 : ∀ a, C a → ∃ vs, H2 a = some (.lst vs) := fun a ⟨i, xs, e1, e2⟩ => by
        obtain ⟨p, o, f1, f2, f3, f4⟩ := E.own i _ e1
        rw [e2] at f1; cases f1
        cases o with
        | lst vs => exact ⟨vs, P.aft.keep _ _ f3 (cl0 _)⟩
        | _ => exact (show False from f4).elim
      have hG3 : ∀ a o, G2 a = some o → ¬ C a → G3 a = some o := fun a o e hc => by rw [g3N a hc]; exact e
      refine kk v G3 H2 ⟨⟨s13, fun a o e nc => P.aft.keep a o e (cl0 a), fun a o e nc g => g3none a o e g, P.aft.there, fun a h => .inl h⟩, E3, ?_, P.new⟩
      have rp := P.rep
      have nw := P.new
      cases hl : z.1 with
      | un => rw [hl] at rp; exact rp
      | t y =>
        rw [hl] at rp hn
        exact Rep.less P.env.same hCl2 hG3 hn rp
      | own c =>
        rw [hl] at rp hn nw
        cases c with
        | lst xs =>
          obtain ⟨p, o, rfl, gp, nc, hh, ro⟩ := rp
          cases o with
          | lst vs =>
            refine ⟨p, .lst vs, rfl, ?_, fun hc => ?_, hh, RepAll.less P.env.same hCl2 hG3 hn ro⟩
            · by_cases hc : C p
              · exact g3C p hc
              · rw [g3N p hc]; exact gp
            · obtain ⟨o, f1, _⟩ := hC2 p hc
              rw [nw p rfl] at f1; cases f1
          | _ => exact (show False from ro).elim
        | _ => simp [L.noL] at hn
      | ref i => rw [hl] at hn; simp [L.noL] at hn
    · simp [dBor, q, hn] at hd
theorem SE.bor {d : Den} (h : SE X fa e d) : SE X fa e (dBor d) := by
  obtain ⟨t, pt, rt⟩ := h
  exact ⟨t, pt, bor_read rt⟩
end
end LW
namespace LW
open PySem PySem.Spec PyProof.Rows L2

/-! ### statements -/
inductive Fl where
  | nx | brk | cont | ret (l : L)
abbrev DenS := REnv → Option (Fl × REnv)
/-- from a start: the slots, too -/
structure AtS (K : PySem.W.Frag) (fa : Nat → Addr) (C0 : Addr → Prop) (G0 H0 : Hp) (σ0 : L2.St) (as : List Nat) (G H : Hp) (σ : L2.St) (ρ : REnv) : Prop extends At K fa C0 G0 H0 G H σ ρ where
  slots : Slots as σ0 σ
/-- what follows is reached -/
def Cont (K : PySem.W.Frag) (fa : Nat → Addr) (C0 : Addr → Prop) (G0 H0 : Hp) (σ0 : L2.St) (as : List Nat) (D : Ends) (fl : Fl) (ρ' : REnv) : Prop :=
  match fl with
  | .nx => ∀ σ' G' H', AtS K fa C0 G0 H0 σ0 as G' H' σ' ρ' → D.nx σ' H'
  | .brk => ∀ σ' G' H', AtS K fa C0 G0 H0 σ0 as G' H' σ' ρ' → D.bk σ' H'
  | .cont => ∀ σ' G' H', AtS K fa C0 G0 H0 σ0 as G' H' σ' ρ' → D.ct σ' H'
  | .ret l => ∀ v σ' G' H', AtS K fa C0 G0 H0 σ0 as G' H' σ' ρ' → LRep K fa G' H' (Cl σ' ρ') σ' v l → NewL H0 v l → D.rt v H'
def RdS (K : PySem.W.Frag) (fa : Nat → Addr) (as : List Nat) (t : TS) (d : DenS) : Prop := ∀ (σ : L2.St) (G H : Hp) (ρ : REnv) (fl : Fl) (ρ' : REnv) (D : Ends), EnvOk K fa G H σ ρ → d ρ = some (fl, ρ') →
  Cont K fa (Cl σ ρ) G H σ as D fl ρ' → t D σ H
def SS (X : Cx) (fa : Nat → Addr) (st : Stmt) (as : List Nat) (d : DenS) : Prop := ∃ t : TS, PS X st t ∧ RdS X.K fa as t d
def SSs (X : Cx) (fa : Nat → Addr) (sts : List Stmt) (as : List Nat) (d : DenS) : Prop := ∃ t : TS, PSs X sts t ∧ RdS X.K fa as t d
section
variable {K : PySem.W.Frag} {fa : Nat → Addr} {C0 : Addr → Prop} {G0 H0 G1 H1 : Hp} {σ0 σ1 : L2.St} {ρ1 ρ' : REnv} {as bs : List Nat} {D : Ends} {fl : Fl}
theorem AtS.then {G2 H2 : Hp} {σ2 : L2.St} {ρ2 : REnv} (a : AtS K fa C0 G0 H0 σ0 as G1 H1 σ1 ρ1) (b : AtS K fa (Cl σ1 ρ1) G1 H1 σ1 bs G2 H2 σ2 ρ2) : AtS K fa C0 G0 H0 σ0 (as ++ bs) G2 H2 σ2 ρ2 :=
  ⟨⟨b.env, a.aft.trans b.aft⟩, a.slots.trans b.slots⟩
/-- the same end, seen from further on -/
theorem Cont.step (a : AtS K fa C0 G0 H0 σ0 as G1 H1 σ1 ρ1) (c : Cont K fa C0 G0 H0 σ0 (as ++ bs) D fl ρ') : Cont K fa (Cl σ1 ρ1) G1 H1 σ1 bs D fl ρ' := by
  cases fl with
  | nx => exact fun σ' G' H' b => c σ' G' H' (a.then b)
  | brk => exact fun σ' G' H' b => c σ' G' H' (a.then b)
  | cont => exact fun σ' G' H' b => c σ' G' H' (a.then b)
  | ret l => exact fun v σ' G' H' b r n => c v σ' G' H' (a.then b) r (n.aft a.aft)
theorem Cont.mono (h : ∀ i ∈ as, i ∈ bs) (c : Cont K fa C0 G0 H0 σ0 bs D fl ρ') : Cont K fa C0 G0 H0 σ0 as D fl ρ' := by
  cases fl with
  | nx => exact fun σ' G' H' b => c σ' G' H' ⟨b.toAt, b.slots.mono h⟩
  | brk => exact fun σ' G' H' b => c σ' G' H' ⟨b.toAt, b.slots.mono h⟩
  | cont => exact fun σ' G' H' b => c σ' G' H' ⟨b.toAt, b.slots.mono h⟩
  | ret l => exact fun v σ' G' H' b r n => c v σ' G' H' ⟨b.toAt, b.slots.mono h⟩ r n
end
def dSeq (d d' : DenS) : DenS := fun ρ => (d ρ).bind fun p => match p.1 with
  | .nx => d' p.2
  | _ => some p
def dNx : DenS := fun ρ => some (.nx, ρ)
section
variable {X : Cx} {fa : Nat → Addr} {st : Stmt} {sts : List Stmt} {as bs : List Nat} {d d' : DenS} {e : Expr} {de : Den} {pos : Pos}
theorem SSs.nil : SSs X fa [] [] dNx := ⟨_, pss_nil, fun σ G H ρ fl ρ' D E hd k => by cases hd; exact k σ G H ⟨At.start E, Slots.refl⟩⟩
theorem SSs.cons (h : SS X fa st as d) (h' : SSs X fa sts bs d') : SSs X fa (st :: sts) (as ++ bs) (dSeq d d') := by
  obtain ⟨t, p, r⟩ := h
  obtain ⟨t', p', r'⟩ := h'
  refine ⟨_, pss_cons p p', fun σ G H ρ fl ρ' D E hd k => ?_⟩
  cases q : d ρ with
  | none => simp [dSeq, q] at hd
  | some z =>
    obtain ⟨f1, ρ1⟩ := z
    refine r σ G H ρ f1 ρ1 _ E q ?_
    cases f1 with
    | nx =>
      simp [dSeq, q] at hd
      exact fun σ1 G1 H1 A => r' σ1 G1 H1 ρ1 fl ρ' D A.env hd (k.step A)
    | brk =>
      simp [dSeq, q] at hd
      obtain ⟨rfl, rfl⟩ := hd
      exact (Cont.mono (fun i h => List.mem_append_left _ h) k : Cont X.K fa (Cl σ ρ) G H σ as D .brk _)
    | cont =>
      simp [dSeq, q] at hd
      obtain ⟨rfl, rfl⟩ := hd
      exact (Cont.mono (fun i h => List.mem_append_left _ h) k : Cont X.K fa (Cl σ ρ) G H σ as D .cont _)
    | ret l =>
      simp [dSeq, q] at hd
      obtain ⟨rfl, rfl⟩ := hd
      exact (Cont.mono (fun i h => List.mem_append_left _ h) k : Cont X.K fa (Cl σ ρ) G H σ as D (.ret l) _)
theorem SSs.one (h : SS X fa st as d) : SSs X fa [st] as d := by
  obtain ⟨t, p, r⟩ := h
  exact ⟨t, pss_one p, r⟩
theorem SS.pass : SS X fa (.Pass pos) [] dNx := ⟨_, ps_pass, fun σ G H ρ fl ρ' D E hd k => by cases hd; exact k σ G H ⟨At.start E, Slots.refl⟩⟩
def dBrk : DenS := fun ρ => some (.brk, ρ)
def dCnt : DenS := fun ρ => some (.cont, ρ)
theorem SS.brk : SS X fa (.Break pos) [] dBrk := ⟨_, ps_break, fun σ G H ρ fl ρ' D E hd k => by cases hd; exact k σ G H ⟨At.start E, Slots.refl⟩⟩
theorem SS.cnt : SS X fa (.Continue pos) [] dCnt := ⟨_, ps_continue, fun σ G H ρ fl ρ' D E hd k => by cases hd; exact k σ G H ⟨At.start E, Slots.refl⟩⟩
def dRet (d : Den) : DenS := fun ρ => (d ρ).map fun p => (.ret p.1, p.2)
theorem SS.ret (h : SE X fa e de) : SS X fa (.Return (some e) pos) [] (dRet de) := by
  obtain ⟨t, p, r⟩ := h
  refine ⟨_, ps_ret p, fun σ G H ρ fl ρ' D E hd k => ?_⟩
  cases q : de ρ with
  | none => simp [dRet, q] at hd
  | some z =>
    simp [dRet, q] at hd
    obtain ⟨rfl, rfl⟩ := hd
    exact r σ G H ρ z.1 z.2 _ E q fun v G' H' P => k v σ G' H' ⟨⟨P.env, P.aft⟩, Slots.refl⟩ P.rep P.new
def dRetN : DenS := fun ρ => some (.ret (.t .non), ρ)
theorem SS.retN : SS X fa (.Return none pos) [] dRetN := ⟨_, ps_retN, fun σ G H ρ fl ρ' D E hd k => by cases hd; exact k .non σ G H ⟨At.start E, Slots.refl⟩ Rep.non trivial⟩
/-- an expression whose value is dropped -/
def dDrop (d : Den) : DenS := fun ρ => (d ρ).map fun p => (.nx, p.2)
theorem SS.expr (h : SE X fa e de) (hs : swapsWith e none pos.line X.env = pure false) : SS X fa (.Expr e pos) [] (dDrop de) := by
  obtain ⟨t, p, r⟩ := h
  refine ⟨_, ps_expr p hs, fun σ G H ρ fl ρ' D E hd k => ?_⟩
  cases q : de ρ with
  | none => simp [dDrop, q] at hd
  | some z =>
    simp [dDrop, q] at hd
    obtain ⟨rfl, rfl⟩ := hd
    exact r σ G H ρ z.1 z.2 _ E q fun v G' H' P => k σ G' H' ⟨⟨P.env, P.aft⟩, Slots.refl⟩
theorem SS.doc {x : Str} {j : Nat} {pos' : Pos} : SS X fa (.Expr (.Constant (.str x) j pos) pos') [] dNx := ⟨_, ps_doc, fun σ G H ρ fl ρ' D E hd k => by cases hd; exact k σ G H ⟨At.start E, Slots.refl⟩⟩
/-- name = value -/
def stoE (i : Nat) (l : L) (ρ : REnv) : Option REnv := if i < ρ.length then (match l with
  | .t x => some (ρ.set i (.t x))
  | .own c => some (ρ.set i (.own c))
  | _ => none) else none
def dSet (i : Nat) (d : Den) : DenS := fun ρ => (d ρ).bind fun p => (stoE i p.1 p.2).map fun r => (.nx, r)
theorem sto_ok {K : PySem.W.Frag} {G H G' H' : Hp} {σ : L2.St} {ρ ρ1 ρ2 : REnv} {l : L} {v : V} {i : Nat} (P : Post K fa G H σ ρ l ρ1 v G' H') (h : stoE i l ρ1 = some ρ2) : AtS K fa (Cl σ ρ) G H σ [i] G' H' (σ.set i (some v)) ρ2 := by
  unfold stoE at h
  split at h
  · rename_i hi
    split at h
    · rename_i x
      cases h
      exact ⟨⟨P.env.set_t hi P.rep, P.aft.gg, P.aft.keep, P.aft.gn, P.aft.there, fun a z => P.aft.cs a (Cl.set_t (fun c z => by cases z) z)⟩, Slots.set⟩
    · rename_i c
      cases h
      have rp := P.rep
      obtain ⟨p, o, rfl, g, nc, hh, ro⟩ := id rp
      refine ⟨⟨P.env.set_own hi rp, P.aft.gg, P.aft.keep, P.aft.gn, P.aft.there, fun a z => ?_⟩, Slots.set⟩
      rcases Cl.set_own z with z | z
      · rw [z]; exact .inr (P.new p rfl)
      · exact P.aft.cs a z
    · cases h
  · cases h
theorem set_read {K : PySem.W.Frag} {t : TE} {i : Nat} (r : ∀ (σ : L2.St) (G H : Hp) (ρ : REnv) (l : L) (ρ' : REnv) (Q : VK), EnvOk K fa G H σ ρ → de ρ = some (l, ρ') → (∀ v G' H', Post K fa G H σ ρ l ρ' v G' H' → Q v H') → t σ H Q) : RdS K fa [i] (tAsg t (gName i)) (dSet i de) := by
  intro σ G H ρ fl ρ' D E hd k
  cases q : de ρ with
  | none => simp [dSet, q] at hd
  | some z =>
    cases q1 : stoE i z.1 z.2 with
    | none => simp [dSet, q, q1] at hd
    | some ρ2 =>
      simp [dSet, q, q1] at hd
      obtain ⟨rfl, rfl⟩ := hd
      exact r σ G H ρ z.1 z.2 _ E q fun v G' H' P => k _ G' H' (sto_ok P q1)
theorem SS.set {i : Nat} {x : Str} {pos' : Pos} (hN : X.N.Nodup) (hi : X.N[i]? = some x) (hx : Loc X.env.scope x) (h : SE X fa e de) (hs : swapsWith e (some (.Name x pos')) pos.line X.env = pure false) (hf : X.fn x = true ∨ X.env.scope.names.lookup x = some .local) :
    SS X fa (.Assign [.Name x pos'] e pos) [i] (dSet i de) := by
  obtain ⟨t, p, r⟩ := h
  exact ⟨_, ps_set hN hi hx p hs hf, set_read r⟩
theorem SS.setC {i : Nat} {y : Str} {py : Pos} {elt tg iter : Expr} {ifs : List Expr} {scope : Scope} {own : List (Str × Nat)} {pos spos : Pos} {src : DenI} {cs : List Nat} {g : DenG} {dt : DenT} {dd : Den} (hc : X.calm = true) (hN : X.N.Nodup) (hy : X.N[i]? = some y) (hyl : X.env.scope.names.lookup y = some .local)
    (hsw : swapsWith (.ListComp elt [⟨tg, iter, ifs, 0⟩] scope pos) (some (.Name y py)) spos.line X.env = pure true) (hi : SI X fa tg iter src)
    (ok : BlkOk X.N X.env.scope scope own) (has : ∀ i ∈ cs, i ∈ own.map (·.2))
    (hg : ∀ (s : Shared) (H : Hp) (C : Addr) (cl : List (Str × Addr)) (fp : List Addr), SG (X.blk s H scope (compEnvC scope cl C X.env) fp) fa tg cs g)
    (ht : ∀ (s : Shared) (H : Hp) (C : Addr) (cl : List (Str × Addr)) (fp : List Addr), STs (X.blk s H scope (compEnvC scope cl C X.env) fp) fa ifs dt)
    (he : ∀ (s : Shared) (H : Hp) (C : Addr) (cl : List (Str × Addr)) (fp : List Addr), SE (X.blk s H scope (compEnvC scope cl C X.env) fp) fa elt dd) (hs : ∀ x, foldedSetIterable iter X.env x = pure x) :
    SS X fa (.Assign [.Name y py] (.ListComp elt [⟨tg, iter, ifs, 0⟩] scope pos) spos) [i] (dSet i (compD src (own.map (·.2)) g dt dd)) := by
  obtain ⟨_, wi, pi, key⟩ := SE.comp (pos := pos) hc hN hi ok has hg ht he hs
  have pg : ∀ (s : Shared) (H : Hp) (C : Addr) (cl : List (Str × Addr)) (fp : List Addr), PG (X.blk s H scope (compEnvC scope cl C X.env) fp) tg (tDG X.K fa cs g) := hg
  have pt : ∀ (s : Shared) (H : Hp) (C : Addr) (cl : List (Str × Addr)) (fp : List Addr), PTs (X.blk s H scope (compEnvC scope cl C X.env) fp) ifs (tDT X.K fa dt) := ht
  have pe : ∀ (s : Shared) (H : Hp) (C : Addr) (cl : List (Str × Addr)) (fp : List Addr), PE (X.blk s H scope (compEnvC scope cl C X.env) fp) elt (tD X.K fa dd) := fun s H C cl fp => (he s H C cl fp).pe
  exact ⟨_, ps_setLc hc hN hy hyl hsw pi ok pg pt pe hs, set_read fun σ G H ρ l ρ' Q E hd k => key σ H Q ⟨G, ρ, l, ρ', E, hd, k⟩⟩
/-- targets of other forms -/
def dAsg (d : Den) (g : DenG) : DenS := fun ρ => (d ρ).bind fun p => p.1.tree.bind fun x => (g x p.2).map fun r => (.nx, r)
theorem SS.asg {tg : Expr} {g : DenG} (h : SE X fa e de) (hg : SG X fa tg as g) (hs : swapsWithSole [tg] e pos.line X.env = pure false) (hw : swappedStores [tg] e X.env = pure none) (h1 : (assignEach [tg] X.env).map (·.2) = [assign tg X.env]) :
    SS X fa (.Assign [tg] e pos) as (dAsg de g) := by
  obtain ⟨t, p, r⟩ := h
  refine ⟨_, ps_asg p hg hs hw h1, fun σ G H ρ fl ρ' D E hd k => ?_⟩
  cases q : de ρ with
  | none => simp [dAsg, q] at hd
  | some z =>
    cases q1 : z.1.tree with
    | none => simp [dAsg, q, q1] at hd
    | some x =>
      cases q2 : g x z.2 with
      | none => simp [dAsg, q, q1, q2] at hd
      | some ρ2 =>
        simp [dAsg, q, q1, q2] at hd
        obtain ⟨rfl, rfl⟩ := hd
        refine r σ G H ρ z.1 z.2 _ E q fun v G1 H1 P => ?_
        obtain ⟨G2, E2, R2, A2, sm, _⟩ := toTree P.env P.rep P.new P.aft q1
        exact ⟨G2, z.2, x, ρ2, E2, R2, q2, fun σ' E' c' s' => k σ' G2 H1 ⟨⟨E', A2.gg, A2.keep, A2.gn, A2.there, fun a z => A2.cs a (c' a z)⟩, s'⟩⟩
/-- a, b = x, y: plain local names -/
def dPar (i j : Nat) (da : DenA) : DenS := fun ρ => (da ρ).bind fun p => match p.1 with
  | [x, y] => if i < p.2.length && decide (j < p.2.length) then some (.nx, (p.2.set i (.t x)).set j (.t y)) else none
  | _ => none
theorem SS.par {i j : Nat} {x y : Str} {a b : Expr} {da : DenA} {px py pt : Pos} {kt k2 : Nat} {pt2 : Pos} (hc : X.calm = true) (hN : X.N.Nodup) (hi : X.N[i]? = some x) (hj : X.N[j]? = some y) (hij : i ≠ j)
    (hx : X.env.scope.names.lookup x = some .local) (hy : X.env.scope.names.lookup y = some .local) (ha : SA X fa [a, b] da)
    (hw : swappedStores [.Tuple [.Name x px, .Name y py] kt pt] (.Tuple [a, b] k2 pt2) X.env = pure (some [x, y])) (hs : swapsWithSole [.Tuple [.Name x px, .Name y py] kt pt] (.Tuple [a, b] k2 pt2) pos.line X.env = pure false) :
    SS X fa (.Assign [.Tuple [.Name x px, .Name y py] kt pt] (.Tuple [a, b] k2 pt2) pos) [i, j] (dPar i j da) := by
  obtain ⟨t, p, r⟩ := ha
  refine ⟨_, ps_par hc hN hi hj hij hx hy p hw hs, fun σ G H ρ fl ρ' D E hd k => ?_⟩
  cases q : da ρ with
  | none => simp [dPar, q] at hd
  | some z =>
    obtain ⟨ts, ρ1⟩ := z
    simp only [dPar, q, Option.bind_some] at hd
    split at hd
    · rename_i u w
      split at hd
      · rename_i hl
        cases hd
        simp only [Bool.and_eq_true, decide_eq_true_eq] at hl
        refine r σ G H ρ [u, w] ρ1 _ E q fun vs G1 H1 A R => ?_
        cases R with
        | cons r1 R =>
          cases R with
          | cons r2 R =>
            cases R
            rename_i v1 v2
            have E1 := A.env.set_t hl.1 r1
            have E2 := E1.set_t (i := j) (by simpa using hl.2) r2
            exact ⟨_, _, rfl, k _ G1 H1 ⟨⟨E2, A.aft.gg, A.aft.keep, A.aft.gn, A.aft.there, fun a z => A.aft.cs a (Cl.set_t (fun c z => by cases z) (Cl.set_t (fun c z => by cases z) z))⟩, (Slots.set (i := i)).trans (Slots.set (i := j))⟩⟩
      · cases hd
    · cases hd
/-- if -/
def dIfS (c : DenT) (d d' : DenS) : DenS := fun ρ => (c ρ).bind fun p => if p.1 then d p.2 else d' p.2
theorem SS.ite {c : Expr} {a b : List Stmt} {dc : DenT} (hc : ST X fa c dc) (ha : SSs X fa a as d) (hb : SSs X fa b bs d') : SS X fa (.If c a b pos) (as ++ bs) (dIfS dc d d') := by
  obtain ⟨tc, pc, rc⟩ := hc
  obtain ⟨t, p, r⟩ := ha
  obtain ⟨t', p', r'⟩ := hb
  refine ⟨_, ps_if pc p p', fun σ G H ρ fl ρ' D E hd k => ?_⟩
  cases q : dc ρ with
  | none => simp [dIfS, q] at hd
  | some z =>
    refine rc σ G H ρ z.1 z.2 _ E q fun G1 H1 A1 => ?_
    have B1 : AtS X.K fa (Cl σ ρ) G H σ [] G1 H1 σ z.2 := ⟨A1, Slots.refl⟩
    cases q1 : z.1 with
    | true =>
      simp [dIfS, q, q1] at hd
      exact iteT (r σ G1 H1 z.2 fl ρ' D A1.env hd (Cont.step (as := []) B1 (Cont.mono (fun i h => List.mem_append_left _ (by simpa using h)) k)))
    | false =>
      simp [dIfS, q, q1] at hd
      exact iteF (r' σ G1 H1 z.2 fl ρ' D A1.env hd (Cont.step (as := []) B1 (Cont.mono (fun i h => List.mem_append_right _ (by simpa using h)) k)))
/-- while -/
def whileL (c : DenT) (db : DenS) : Nat → REnv → Option (Fl × REnv)
  | 0, _ => none
  | n + 1, ρ => (c ρ).bind fun p => if p.1 then (db p.2).bind fun q => (match q.1 with
    | .nx => whileL c db n q.2
    | .cont => whileL c db n q.2
    | .brk => some (.nx, q.2)
    | .ret l => some (.ret l, q.2)) else some (.nx, p.2)
theorem SS.while {c : Expr} {body : List Stmt} {dc : DenT} {n : Nat} (hp : PassesOwn (model X.prog X.w) X.A X.env X.xe) (hc : ST X fa c dc) (hb : SSs X fa body as d) : SS X fa (.While c body [] pos) as (whileL dc d n) := by
  obtain ⟨tc, pc, rc⟩ := hc
  obtain ⟨t, p, r⟩ := hb
  refine ⟨_, ps_while hp pc p, fun σ G H ρ fl ρ' D E hd k => ?_⟩
  refine ⟨fun m σ1 H1 => ∃ (G1 : Hp) (ρ1 : REnv), AtS X.K fa (Cl σ ρ) G H σ as G1 H1 σ1 ρ1 ∧ whileL dc d m ρ1 = some (fl, ρ'), ⟨n, G, ρ, ⟨At.start E, Slots.refl⟩, hd⟩, ?_⟩
  rintro m σ1 H1 ⟨G1, ρ1, A1, hw⟩
  cases m with
  | zero => cases hw
  | succ m =>
    cases q : dc ρ1 with
    | none => simp [whileL, q] at hw
    | some z =>
      refine rc σ1 G1 H1 ρ1 z.1 z.2 _ A1.env q fun G2 H2 A2 => ?_
      have B2 : AtS X.K fa (Cl σ ρ) G H σ as G2 H2 σ1 z.2 := ⟨⟨A2.env, A1.aft.trans A2.aft⟩, A1.slots⟩
      cases q1 : z.1 with
      | false =>
        simp [whileL, q, q1] at hw
        obtain ⟨rfl, rfl⟩ := hw
        exact iteF (k σ1 G2 H2 B2)
      | true =>
        cases q2 : d z.2 with
        | none => simp [whileL, q, q1, q2] at hw
        | some y =>
          obtain ⟨f2, ρ2⟩ := y
          refine iteT ⟨fun σ3 H3 => ∃ (G3 : Hp), AtS X.K fa (Cl σ ρ) G H σ as G3 H3 σ3 ρ2 ∧ whileL dc d m ρ2 = some (fl, ρ'), fun σ3 H3 ⟨G3, A3, h3⟩ => ⟨m, Nat.lt_succ_self m, G3, ρ2, A3, h3⟩, ?_⟩
          refine r σ1 G2 H2 z.2 f2 ρ2 _ A2.env q2 ?_
          have aa : ∀ {G3 H3 : Hp} {σ3 : L2.St} {ρ3 : REnv}, AtS X.K fa (Cl σ1 z.2) G2 H2 σ1 as G3 H3 σ3 ρ3 → AtS X.K fa (Cl σ ρ) G H σ as G3 H3 σ3 ρ3 := fun h => ⟨(B2.then h).toAt, (B2.then h).slots.mono fun i hi => by
            rcases List.mem_append.mp hi with z | z <;> exact z⟩
          cases f2 with
          | nx =>
            simp [whileL, q, q1, q2] at hw
            exact fun σ3 G3 H3 A3 => ⟨G3, aa A3, hw⟩
          | cont =>
            simp [whileL, q, q1, q2] at hw
            exact fun σ3 G3 H3 A3 => ⟨G3, aa A3, hw⟩
          | brk =>
            simp [whileL, q, q1, q2] at hw
            obtain ⟨rfl, rfl⟩ := hw
            exact fun σ3 G3 H3 A3 => k σ3 G3 H3 (aa A3)
          | ret l =>
            simp [whileL, q, q1, q2] at hw
            obtain ⟨rfl, rfl⟩ := hw
            exact fun v σ3 G3 H3 A3 rr nn => k v σ3 G3 H3 (aa A3) rr (nn.aft B2.aft)
/-- for -/
def forL (g : DenG) (db : DenS) : List T → REnv → Option (Fl × REnv)
  | [], ρ => some (.nx, ρ)
  | x :: xs, ρ => (g x ρ).bind fun ρa => (db ρa).bind fun q => match q.1 with
    | .nx => forL g db xs q.2
    | .cont => forL g db xs q.2
    | .brk => some (.nx, q.2)
    | .ret l => some (.ret l, q.2)
def dFor (as : List Nat) (src : DenI) (g : DenG) (db : DenS) : DenS := fun ρ => (src ρ).bind fun s => if s.2.1.all (fun i => !as.contains i) then
  (forL g db s.1 (hideO s.2.1 s.2.2)).map fun r => (r.1, restE s.2.2 r.2 s.2.1.toList) else none
end
end LW
namespace LW
open PySem PySem.Spec PyProof.Rows L2

section
variable {X : Cx} {fa : Nat → Addr} {tg iter : Expr} {body : List Stmt} {as bs : List Nat} {d : DenS} {pos : Pos}
theorem SS.for {src : DenI} {g : DenG} (hp : PassesOwn (model X.prog X.w) X.A X.env X.xe) (hc : X.calm = true) (hi : SI X fa tg iter src) (hg : SG X fa tg as g) (hb : SSs X fa body bs d) (hs : ∀ x, foldedSetIterable iter X.env x = pure x) :
    SS X fa (.For tg iter body [] pos) (as ++ bs) (dFor (as ++ bs) src g d) := by
  obtain ⟨wi, pi, ri⟩ := hi
  obtain ⟨t, p, r⟩ := hb
  refine ⟨_, ps_for hp hc pi hg p hs, fun σ G H ρ fl ρ' D E hd k => ?_⟩
  cases q0 : src ρ with
  | none => simp [dFor, q0] at hd
  | some z =>
    obtain ⟨xs, ho, ρ1⟩ := z
    by_cases hh : ho.all (fun i => !(as ++ bs).contains i) = true
    · cases q1 : forL g d xs (hideO ho ρ1) with
      | none => simp only [dFor, q0, Option.bind_some, hh, if_true, q1] at hd; cases hd
      | some rr =>
        obtain ⟨f1, ρ2⟩ := rr
        simp only [dFor, q0, Option.bind_some, hh, if_true, q1, Option.map_some] at hd
        cases hd
        refine ri σ G H ρ xs ho ρ1 _ E q0 fun J bb Kp G1 H1 A1 W kp hb => ?_
        have E0 : EnvOk X.K fa G1 H1 σ (hideO ho ρ1) := by
          cases ho with
          | none => exact A1.env
          | some i => exact A1.env.hide i
        have sub0 : ∀ a, Cl σ (hideO ho ρ1) a → Cl σ ρ1 a := by
          cases ho with
          | none => exact fun a h => h
          | some i => exact fun a h => Cl.hide h
        -- what was hidden comes back behind the loop
        have back : ∀ {G2 H2 : Hp} {σ2 : L2.St} {ρ2 : REnv}, AtS X.K fa (Cl σ (hideO ho ρ1)) G1 H1 σ (as ++ bs) G2 H2 σ2 ρ2 → AtS X.K fa (Cl σ ρ) G H σ (as ++ bs) G2 H2 σ2 (restE ρ1 ρ2 ho.toList) ∧ ∀ a, Cl σ2 (restE ρ1 ρ2 ho.toList) a → Cl σ2 ρ2 a ∨ Cl σ ρ1 a := by
          intro G2 H2 σ2 ρ2 A2
          have upA0 : Aft (Cl σ ρ1) (Cl σ2 ρ2) G1 H1 G2 H2 := ⟨A2.aft.gg, fun a o e n => A2.aft.keep a o e fun z => n (sub0 a z), fun a o e n g => A2.aft.gn a o e (fun z => n (sub0 a z)) g, A2.aft.there, fun a h => by
            rcases A2.aft.cs a h with z | z
            · exact .inl (sub0 a z)
            · exact .inr z⟩
          cases ho with
          | none => exact ⟨⟨⟨A2.env, A1.aft.trans upA0⟩, A2.slots⟩, fun a h => .inl h⟩
          | some i =>
            have hni : i ∉ as ++ bs := by
              simp only [Option.all_some, Bool.not_eq_true', List.contains_eq_mem, decide_eq_false_iff_not] at hh
              exact hh
            have hσ : σ2[i]? = σ[i]? := A2.slots.keep i hni
            have lenE : ρ1.length = ρ2.length := by rw [A1.env.len, A2.env.len, A2.slots.len]
            have hidN : ∀ (c : OC) (a : Addr), ρ1[i]? = some (.own c) → σ[i]? = some (some (.ref a)) → ¬ Cl σ (ρ1.set i .un) a := fun c a e1 e2 ⟨j, c', f1, f2⟩ => by
              rcases set_get f1 with ⟨_, z⟩ | ⟨n, z⟩
              · cases z
              · exact n (A1.env.inj j i c' c a z e1 f2 e2)
            have csub : ∀ a, Cl σ2 (restE ρ1 ρ2 [i]) a → Cl σ2 ρ2 a ∨ Cl σ ρ1 a := fun a ⟨j, c, e1, e2⟩ => by
              rcases restE_get lenE e1 with ⟨h1, h2⟩ | ⟨h1, h2⟩
              · have : j = i := by simpa using h1
                subst this
                rw [hσ] at e2
                exact .inr ⟨j, c, h2, e2⟩
              · exact .inl ⟨j, c, h2, e2⟩
            refine ⟨⟨⟨⟨A2.env.same, by show (restE ρ1 ρ2 [i]).length = _; rw [restE_len]; exact A2.env.len, fun j x e => ?_, fun j c e => ?_, fun j j' c c' a e1 e2 e3 e4 => ?_⟩, A1.aft.trans ⟨upA0.gg, upA0.keep, upA0.gn, upA0.there, fun a h => ?_⟩⟩, A2.slots⟩, csub⟩
            · rcases restE_get lenE e with ⟨h1, h2⟩ | ⟨h1, h2⟩
              · have : j = i := by simpa using h1
                subst this
                obtain ⟨v, f1, f2⟩ := A1.env.t j x h2
                exact ⟨v, by rw [hσ]; exact f1, f2.mono A2.aft.gg⟩
              · exact A2.env.t j x h2
            · rcases restE_get lenE e with ⟨h1, h2⟩ | ⟨h1, h2⟩
              · have : j = i := by simpa using h1
                subst this
                obtain ⟨a, o, f1, f2, f3, f4⟩ := A1.env.own j c h2
                have nc := hidN c a h2 f1
                exact ⟨a, o, by rw [hσ]; exact f1, A2.aft.gn a o f3 nc f2, A2.aft.keep a o f3 nc, f4.mono A2.aft.gg⟩
              · exact A2.env.own j c h2
            · have cross : ∀ (j' : Nat) (c c' : OC), ρ1[i]? = some (.own c) → σ2[i]? = some (some (.ref a)) → ρ2[j']? = some (.own c') → σ2[j']? = some (some (.ref a)) → False := fun j' c c' h2 h3 h5 h6 => by
                rw [hσ] at h3
                obtain ⟨p, o, f1, f2, f3, f4⟩ := A1.env.own i c h2
                rw [h3] at f1; cases f1
                rcases A2.aft.cs a ⟨j', c', h5, h6⟩ with z | z
                · exact hidN c a h2 h3 z
                · rw [z] at f3; cases f3
              rcases restE_get lenE e1 with ⟨h1, h2⟩ | ⟨h1, h2⟩
              · have : j = i := by simpa using h1
                subst this
                rcases restE_get lenE e2 with ⟨h3, h4⟩ | ⟨h3, h4⟩
                · have : j' = j := by simpa using h3
                  exact this.symm
                · exact (cross j' c c' h2 e3 h4 e4).elim
              · rcases restE_get lenE e2 with ⟨h3, h4⟩ | ⟨h3, h4⟩
                · have : j' = i := by simpa using h3
                  subst this
                  exact (cross j c' c h4 e4 h2 e3).elim
                · exact A2.env.inj j j' c c' a h2 h4 e3 e4
            · rcases csub a h with z | z
              · rcases A2.aft.cs a z with y | y
                · exact .inl (sub0 a y)
                · exact .inr y
              · exact .inl z
        refine ⟨fun i m σ' H' => m = xs.length - i ∧ i ≤ xs.length ∧ ∃ (G' : Hp) (ρi : REnv), AtS X.K fa (Cl σ (hideO ho ρ1)) G1 H1 σ (as ++ bs) G' H' σ' ρi ∧ Kp G' H' ∧ forL g d (xs.drop i) ρi = some (fl, ρ2),
          ⟨xs.length, by simp, Nat.zero_le _, G1, hideO ho ρ1, ⟨At.start E0, Slots.refl⟩, kp, by simpa using q1⟩, ?_⟩
        rintro i m σi Hi ⟨rfl, hle, Gi, ρi, Ai, kpi, hf⟩
        by_cases hlt : i < xs.length
        · have ex : xs[i]? = some xs[i] := by simp [hlt]
          obtain ⟨go, yl⟩ := W.go i Gi Hi xs[i] kpi Ai.env.same ex
          have hdrop : xs.drop i = xs[i] :: xs.drop (i + 1) := List.drop_eq_getElem_cons hlt
          rw [hdrop] at hf
          cases qa : g xs[i] ρi with
          | none => simp [forL, qa] at hf
          | some ρa =>
            cases qb : d ρa with
            | none => simp [forL, qa, qb] at hf
            | some pb =>
              obtain ⟨f2, ρb⟩ := pb
              refine .inr ⟨go, fun σ' H' => ∃ (G' : Hp), AtS X.K fa (Cl σ (hideO ho ρ1)) G1 H1 σ (as ++ bs) G' H' σ' ρb ∧ Kp G' H' ∧ forL g d (xs.drop (i + 1)) ρb = some (fl, ρ2), fun σ' H' ⟨G', h1, h2, h3⟩ => ⟨xs.length - (i + 1), by omega, rfl, hlt, G', ρb, h1, h2, h3⟩, fun v H' hv => ?_⟩
              obtain ⟨G', a1, sm, rv⟩ := yl v H' hv
              have a1' : Aft (Cl σi ρi) (Cl σi ρi) Gi Hi G' H' := a1.wide fun _ h => h.elim
              have E1 : EnvOk X.K fa G' H' σi ρi := Ai.env.carry a1 sm fun _ _ h => h
              refine ⟨G', ρi, xs[i], ρa, E1, rv, qa, fun σ2 E2 c2 s2 => ?_⟩
              have a2 : Aft (Cl σi ρi) (Cl σ2 ρa) G' H' G' H' := ⟨Same.refl _, fun _ _ h _ => h, fun _ _ _ _ h => h, fun _ h => h, fun a h => .inl (c2 a h)⟩
              have step : ∀ {G3 H3 : Hp} {σ3 : L2.St} {ρ3 : REnv}, AtS X.K fa (Cl σ2 ρa) G' H' σ2 bs G3 H3 σ3 ρ3 → AtS X.K fa (Cl σ (hideO ho ρ1)) G1 H1 σ (as ++ bs) G3 H3 σ3 ρ3 ∧ Aft (Cl σi ρi) (Cl σ3 ρ3) Gi Hi G3 H3 := fun {G3 H3 σ3 ρ3} h =>
                ⟨⟨⟨h.env, Ai.aft.trans ((a1'.trans a2).trans h.aft)⟩, (Ai.slots.trans (s2.trans h.slots)).mono fun j hj => by
                  rcases List.mem_append.mp hj with z | z <;> exact z⟩, (a1'.trans a2).trans h.aft⟩
              have bsN : ∀ b ∈ bb, ¬ Cl σi ρi b := fun b hbb => by
                obtain ⟨f1, f2⟩ := hb b hbb
                cases q : H1 b with
                | none => exact absurd q f1
                | some o => exact Ai.aft.ne q f2
              have nwB : ∀ {v : V} {l : L}, NewL H' v l → NewL H v l := fun h => ((h.aft a1').aft Ai.aft).aft A1.aft
              refine r σ2 G' H' ρa f2 ρb _ E2 qb ?_
              cases f2 with
              | nx =>
                simp [forL, qa, qb] at hf
                exact fun σ3 G3 H3 A3 => ⟨G3, (step A3).1, W.stb _ _ _ _ _ _ kpi (step A3).2 bsN, hf⟩
              | cont =>
                simp [forL, qa, qb] at hf
                exact fun σ3 G3 H3 A3 => ⟨G3, (step A3).1, W.stb _ _ _ _ _ _ kpi (step A3).2 bsN, hf⟩
              | brk =>
                simp [forL, qa, qb] at hf
                obtain ⟨rfl, rfl⟩ := hf
                exact fun σ3 G3 H3 A3 => k σ3 G3 H3 (back (step A3).1).1
              | ret l =>
                simp [forL, qa, qb] at hf
                obtain ⟨rfl, rfl⟩ := hf
                intro v σ3 G3 H3 A3 rl nl
                obtain ⟨b1, b2⟩ := back (step A3).1
                refine k v σ3 G3 H3 b1 ?_ (nwB nl)
                cases l with
                | un => exact rl
                | t x => exact rl
                | ref j => exact rl
                | own c =>
                  obtain ⟨pa, o, rfl, gp, nc, hh2, ro⟩ := rl
                  refine ⟨pa, o, rfl, gp, fun hc => ?_, hh2, ro⟩
                  rcases b2 pa hc with z | z
                  · exact nc z
                  · obtain ⟨j, c', f1, f2⟩ := z
                    obtain ⟨a', o', u1, u2, u3, u4⟩ := A1.env.own j c' f1
                    rw [f2] at u1; cases u1
                    have : H1 pa = none := ((nl.aft a1').aft Ai.aft) pa rfl
                    rw [this] at u3; cases u3
        · have hi : i = xs.length := by omega
          subst hi
          simp [forL] at hf
          obtain ⟨rfl, rfl⟩ := hf
          exact .inl ⟨W.stop _ Gi Hi kpi Ai.env.same (Nat.le_refl _), k σi Gi Hi (back Ai).1⟩
    · simp only [dFor, q0, Option.bind_some, hh] at hd
      cases hd
end
end LW
namespace LW
open PySem PySem.Spec PyProof.Rows L2

section
variable {K : PySem.W.Frag} {fa : Nat → Addr} {C0 : Addr → Prop} {G0 H0 G H : Hp} {σ : L2.St} {ρ : REnv}
/-- a slot's own object is changed -/
theorem At.put (A : At K fa C0 G0 H0 G H σ ρ) {i : Nat} {a : Addr} {c c' : OC} {o o' : HO} (hi : ρ[i]? = some (.own c)) (hs : σ[i]? = some (some (.ref a))) (h : H a = some o) (r : ORep K fa G o' c') :
    At K fa C0 G0 H0 G (upd H a o') σ (ρ.set i (.own c')) := by
  obtain ⟨p, o2, f1, g, f3, f4⟩ := A.env.own i c hi
  rw [hs] at f1; cases f1
  have hil : i < ρ.length := (List.getElem?_eq_some_iff.mp hi).1
  have key : ∀ (j : Nat) (d : OC), (ρ.set i (L.own c'))[j]? = some (.own d) → ∃ d', ρ[j]? = some (.own d') := fun j d f => by
    rcases set_get f with ⟨rfl, _⟩ | ⟨_, f⟩
    · exact ⟨_, hi⟩
    · exact ⟨d, f⟩
  have sub : ∀ b, Cl σ (ρ.set i (.own c')) b → Cl σ ρ b := fun b ⟨j, d, e1, e2⟩ => by
    obtain ⟨d', k⟩ := key j d e1
    exact ⟨j, d', k, e2⟩
  refine ⟨⟨fun b u e => ?_, by simp [A.env.len], fun j x e => ?_, fun j d e => ?_, fun j j' d d' b e1 e2 e3 e4 => ?_⟩, ⟨A.aft.gg, fun b u e nc => ?_, A.aft.gn, fun b e => ?_, fun b hb => A.aft.cs b (sub b hb)⟩⟩
  · rw [upd_ne (ne_of_none e g)]; exact A.env.same b u e
  · rcases set_get e with ⟨_, z⟩ | ⟨_, f⟩
    · cases z
    · exact A.env.t j x f
  · rcases set_get e with ⟨rfl, z⟩ | ⟨n, f⟩
    · cases z
      exact ⟨a, o', hs, g, upd_same, r⟩
    · obtain ⟨b, u, u1, u2, u3, u4⟩ := A.env.own j d f
      refine ⟨b, u, u1, u2, ?_, u4⟩
      rw [upd_ne (show b ≠ a from fun z => by subst z; exact n (A.env.inj j i _ _ b f hi u1 hs))]
      exact u3
  · obtain ⟨d1, k1⟩ := key j d e1
    obtain ⟨d2, k2⟩ := key j' d' e2
    exact A.env.inj j j' d1 d2 b k1 k2 e3 e4
  · have hb : b ≠ a := fun z => by
      subst z
      rcases A.aft.cs b ⟨i, c, hi, hs⟩ with y | y
      · exact nc y
      · rw [y] at e; cases e
    rw [upd_ne hb]
    exact A.aft.keep b u e nc
  · by_cases hb : b = a
    · subst hb; rw [upd_same] at e; cases e
    · rw [upd_ne hb] at e; exact A.aft.there b e
end

/-! ### methods that change a slot's own list -/
/-- a rule by trees: the list before, the arguments; what comes out (a tree), the list behind -/
def MeT (K : PySem.W.Frag) (fa : Nat → Addr) (r : V → List V → Hp → VK → Prop) (f : List T → List T → Option (T × List T)) : Prop :=
  ∀ (G H : Hp) (a : Addr) (ws vs : List V) (xs ts xs' : List T) (y : T) (Q : VK), Same G H → RepAll K fa G ws xs → RepAll K fa G vs ts → H a = some (.lst ws) → f xs ts = some (y, xs') →
    (∀ v ws', Rep K fa G v y → RepAll K fa G ws' xs' → Q v (upd H a (.lst ws'))) → r (.ref a) vs H Q
def dMeth (i : Nat) (f : List T → List T → Option (T × List T)) (da : DenA) : Den := fun ρ => if isOwnL ρ i then (da ρ).bind fun p => (match p.2[i]? with
  | some (.own (.lst xs)) => (f xs p.1).map fun r => (.t r.1, p.2.set i (.own (.lst r.2)))
  | _ => none) else none
theorem meth_end {K : PySem.W.Frag} {fa : Nat → Addr} {r : V → List V → Hp → VK → Prop} {f : List T → List T → Option (T × List T)} {i : Nat} {G H G1 H1 : Hp} {σ : L2.St} {ρ ρ1 : REnv} {a : Addr} {vs : List V} {ts xs xs' : List T} {y : T} {Q : VK} (me : MeT K fa r f)
    (A : At K fa (Cl σ ρ) G H G1 H1 σ ρ1) (R : RepAll K fa G1 vs ts) (hi : ρ1[i]? = some (.own (.lst xs))) (hs : σ[i]? = some (some (.ref a))) (hf : f xs ts = some (y, xs'))
    (k : ∀ v G' H', Post K fa G H σ ρ (.t y) (ρ1.set i (.own (.lst xs'))) v G' H' → Q v H') : r (.ref a) vs H1 Q := by
  obtain ⟨p, o, f1, g, f3, f4⟩ := A.env.own i _ hi
  rw [hs] at f1; cases f1
  cases o with
  | lst ws =>
    refine me G1 H1 a ws vs xs ts xs' y Q A.env.same f4 R f3 hf fun v ws' rv rw' => ?_
    have B := A.put (c' := .lst xs') (o' := .lst ws') hi hs f3 rw'
    exact k v G1 _ ⟨B.aft, B.env, rv, trivial⟩
  | _ => exact (show False from f4).elim
section
variable {X : Cx} {fa : Nat → Addr} {e : Expr} {es : List Expr} {x : Str} {name : Str} {pos apos cpos : Pos} {id : String} {r : V → List V → Hp → VK → Prop} {f : List T → List T → Option (T × List T)} {i : Nat}
theorem SE.meth {da : DenA} (slot : Slot "list" name id) (hty : typeOf (.builtin id) = pure (.type "method_descriptor")) (hm : MtR X id r) (me : MeT X.K fa r f)
    (hN : X.N[i]? = some x) (hv : Vis X.env.scope x) (hd : (x == ("__debug__" : Str)) = false) (hcd : (x == ("__classdict__" : Str)) = false) (ha : SA X fa (e :: es) da)
    (hfew : ((backTo cpos (starEach (e :: es) X.env)).all (fun x => !x.1) && (backToKw cpos (keywordEach [] X.env)).all (fun x => x.1.isSome)
      && decide ((e :: es).length + ([] : List Keyword).length + (if ([] : List Keyword).isEmpty then 0 else 1) < 30)) = true)
    (hline : (apos.endLine == cpos.line) = true) (hs : starEach (e :: es) X.env = (false, eval e X.env) :: starEach es X.env) (hplain : (backTo cpos (starEach es X.env)).any (·.1) = false) :
    SE X fa (.Call (.Attribute (.Name x pos) name apos) (e :: es) [] cpos) (dMeth i f da) := by
  obtain ⟨t, pt, rt⟩ := ha
  refine ⟨_, pe_bm PySem.F.plainAttrs_list slot hty hm (pe_var hN hv hd hcd) pt rfl hfew hline hs hplain, fun σ G H ρ l ρ' Q E hdd kk => ?_⟩
  by_cases ho : isOwnL ρ i = true
  · cases q : da ρ with
    | none => simp [dMeth, q, ho] at hdd
    | some z =>
      cases q2 : z.2[i]? with
      | none => simp [dMeth, q, q2, ho] at hdd
      | some m =>
        cases m with
        | own c =>
          cases c with
          | lst xs =>
            cases q1 : f xs z.1 with
            | none => simp [dMeth, q, q2, q1, ho] at hdd
            | some rr =>
              obtain ⟨y, xs'⟩ := rr
              simp [dMeth, q, q2, q1, ho] at hdd
              obtain ⟨rfl, rfl⟩ := hdd
              obtain ⟨c', hc'⟩ := isOwnL_inv ho
              obtain ⟨a0, o0, e0, g0, h0, r0⟩ := E.own i _ hc'
              cases o0 with
              | lst ws0 =>
                refine ⟨_, e0, .inl ⟨rfl, ws0, .of h0⟩, ?_⟩
                exact rt σ G H ρ z.1 z.2 _ E q fun vs G1 H1 A1 R1 => meth_end me A1 R1 q2 e0 q1 kk
              | _ => exact (show False from r0).elim
          | _ => simp [dMeth, q, q2, ho] at hdd
        | _ => simp [dMeth, q, q2, ho] at hdd
  · simp [dMeth, ho] at hdd
theorem SE.meth0 (slot : Slot "list" name id) (hty : typeOf (.builtin id) = pure (.type "method_descriptor")) (hm : MtR X id r) (me : MeT X.K fa r f)
    (hN : X.N[i]? = some x) (hv : Vis X.env.scope x) (hd : (x == ("__debug__" : Str)) = false) (hcd : (x == ("__classdict__" : Str)) = false) (hline : (apos.endLine == cpos.line) = true) :
    SE X fa (.Call (.Attribute (.Name x pos) name apos) [] [] cpos) (dMeth i f dNil) := by
  refine ⟨_, pe_bm0 PySem.F.plainAttrs_list slot hty hm (pe_var hN hv hd hcd) rfl hline, fun σ G H ρ l ρ' Q E hdd kk => ?_⟩
  by_cases ho : isOwnL ρ i = true
  · obtain ⟨xs, q2⟩ := isOwnL_inv ho
    cases q1 : f xs [] with
    | none => simp [dMeth, dNil, q2, q1, ho] at hdd
    | some rr =>
      obtain ⟨y, xs'⟩ := rr
      simp [dMeth, dNil, q2, q1, ho] at hdd
      obtain ⟨rfl, rfl⟩ := hdd
      obtain ⟨a0, o0, e0, g0, h0, r0⟩ := E.own i _ q2
      cases o0 with
      | lst ws0 => exact ⟨_, e0, .inl ⟨rfl, ws0, .of h0⟩, meth_end me (At.start E) .nil q2 e0 q1 kk⟩
      | _ => exact (show False from r0).elim
  · simp [dMeth, ho] at hdd
end
def fAppend (xs ts : List T) : Option (T × List T) := match ts with
  | [x] => if xs.length < line then some (.non, xs ++ [x]) else none
  | _ => none
theorem me_append {K : PySem.W.Frag} {fa : Nat → Addr} : MeT K fa rAppend fAppend := by
  intro G H a ws vs xs ts xs' y Q s rw rv h hf k
  unfold fAppend at hf
  split at hf
  · rename_i x
    split at hf
    · rename_i hz
      cases hf
      cases rv with
      | cons r1 r2 =>
        cases r2
        exact ⟨a, ws, _, rfl, rfl, h, by rw [rw.length, ← line_eq]; exact hz, k .non _ .non (rw.append (.one r1))⟩
    · cases hf
  · cases hf
def fExtend (xs ts : List T) : Option (T × List T) := match ts with
  | [.lst ys] => if xs.length + ys.length ≤ line then some (.non, xs ++ ys) else none
  | _ => none
theorem me_extend {K : PySem.W.Frag} {fa : Nat → Addr} : MeT K fa rExtend fExtend := by
  intro G H a ws vs xs ts xs' y Q s rw rv h hf k
  unfold fExtend at hf
  split at hf
  · rename_i ys
    split at hf
    · rename_i hz
      cases hf
      cases rv with
      | cons r1 r2 =>
        cases r2
        cases r1 with
        | lst g rr =>
          exact ⟨a, _, ws, _, rfl, rfl, h, s _ _ g, by rw [rw.length, rr.length, ← line_eq]; exact hz, k .non _ .non (rw.append rr)⟩
    · cases hf
  · cases hf
def fPop (xs ts : List T) : Option (T × List T) := match ts with
  | [] => (xs[xs.length - 1]?).map fun y => (y, xs.dropLast)
  | _ => none
theorem me_pop {K : PySem.W.Frag} {fa : Nat → Addr} : MeT K fa rPop fPop := by
  intro G H a ws vs xs ts xs' y Q s rw rv h hf k
  unfold fPop at hf
  split at hf
  · cases q : xs[xs.length - 1]? with
    | none => simp [q] at hf
    | some z =>
      simp [q] at hf
      obtain ⟨rfl, rfl⟩ := hf
      cases rv
      obtain ⟨v, h1, h2⟩ := rw.get q
      exact ⟨a, ws, v, rfl, rfl, h, by rw [rw.length]; exact h1, k v _ h2 rw.dropLast⟩
  · cases hf
def fReverse (xs ts : List T) : Option (T × List T) := match ts with
  | [] => some (.non, xs.reverse)
  | _ => none
theorem me_reverse {K : PySem.W.Frag} {fa : Nat → Addr} : MeT K fa rReverse fReverse := by
  intro G H a ws vs xs ts xs' y Q s rw rv h hf k
  unfold fReverse at hf
  split at hf
  · cases hf
    cases rv
    exact ⟨a, ws, rfl, rfl, h, k .non _ .non rw.rev⟩
  · cases hf

/-! ### stores into a slot's own list -/
def tDGm (K : PySem.W.Frag) (fa : Nat → Addr) (as : List Nat) (g : DenG) : TG := fun v σ H Q => ∃ (G : Hp) (ρ : REnv) (x : T) (ρ' : REnv), EnvOk K fa G H σ ρ ∧ Rep K fa G v x ∧ g x ρ = some ρ' ∧
  ∀ σ' G' H', AtS K fa (Cl σ ρ) G H σ as G' H' σ' ρ' → Q σ' H'
def SM (X : Cx) (fa : Nat → Addr) (tg : Expr) (as : List Nat) (g : DenG) : Prop := PG X tg (tDGm X.K fa as g)
def tDGms (K : PySem.W.Frag) (fa : Nat → Addr) (as : List Nat) (g : DenGs) : TGs := fun vs σ H Q => ∃ (G : Hp) (ρ : REnv) (xs : List T) (ρ' : REnv), EnvOk K fa G H σ ρ ∧ RepAll K fa G vs xs ∧ g xs ρ = some ρ' ∧
  ∀ σ' G' H', AtS K fa (Cl σ ρ) G H σ as G' H' σ' ρ' → Q σ' H'
def SMs (X : Cx) (fa : Nat → Addr) (ts : List Expr) (as : List Nat) (g : DenGs) : Prop := PGs X ts (tDGms X.K fa as g)
section
variable {X : Cx} {fa : Nat → Addr} {e tg : Expr} {es : List Expr} {pos : Pos} {as bs : List Nat} {d de : Den}
theorem SG.m {g : DenG} (h : SG X fa tg as g) : SM X fa tg as g := ⟨fun pins s σ H v u Q I r ⟨G, ρ, x, ρ', E, rx, hg, k⟩ =>
  h.run pins s σ H v u Q I r ⟨G, ρ, x, ρ', E, rx, hg, fun σ' E' c' s' => k σ' G H ⟨⟨E', Same.refl _, fun _ _ h _ => h, fun _ _ _ _ h => h, fun _ h => h, fun a z => .inl (c' a z)⟩, s'⟩⟩⟩
theorem SMs.nil : SMs X fa [] [] gNilT := ⟨fun pins s σ H vs us Q I r ⟨G, ρ, xs, ρ', E, rx, hg, k⟩ => by
  cases xs with
  | nil =>
    cases hg
    cases rx
    exact pgs_nil.run pins s σ H [] us Q I r ⟨rfl, k σ G H ⟨At.start E, Slots.refl⟩⟩
  | cons x xs => cases hg⟩
theorem SMs.cons {g : DenG} {gs : DenGs} (h1 : SM X fa e as g) (h2 : SMs X fa es bs gs) (hs : (assignEach (e :: es) X.env).map (·.2) = assign e X.env :: (assignEach es X.env).map (·.2)) : SMs X fa (e :: es) (as ++ bs) (gConsT g gs) :=
  ⟨fun pins s σ H vs us Q I r ⟨G, ρ, xs, ρ', E, rx, hg, k⟩ => by
  have h1' : PG X e (tDGm X.K fa as g) := h1
  have h2' : PGs X es (tDGms X.K fa bs gs) := h2
  refine (pgs_cons h1' h2' hs).run pins s σ H vs us Q I r ?_
  cases xs with
  | nil => cases hg
  | cons x xs =>
    cases rx with
    | @cons v vs _ _ a b =>
      cases q : g x ρ with
      | none => simp [gConsT, q] at hg
      | some ρ1 =>
        simp [gConsT, q] at hg
        exact ⟨v, vs, rfl, G, ρ, x, ρ1, E, a, q, fun σ1 G1 H1 A1 => ⟨G1, ρ1, xs, ρ', A1.env, b.mono A1.aft.gg, hg, fun σ2 G2 H2 A2 => k σ2 G2 H2 (A1.then A2)⟩⟩⟩
theorem SM.tup {gs : DenGs} {kk n : Nat} (hc : X.calm = true) (h : SMs X fa es as gs) (hn : (assignEach es X.env).length = n) (hst : (assignEach es X.env).findIdx? (·.1) = none) : SM X fa (.Tuple es kk pos) as (gTupT n gs) :=
  ⟨fun pins s σ H v u Q I r ⟨G, ρ, x, ρ', E, rx, hg, k⟩ => by
  have h' : PGs X es (tDGms X.K fa as gs) := h
  refine (pg_tup hc h' hn hst).run pins s σ H v u Q I r ?_
  unfold gTupT at hg
  split at hg
  · rename_i xs
    split at hg
    · rename_i hl
      cases rx with
      | tup s1 a => exact ⟨_, _, rfl, same_sqT E.same (.of s1), by rw [a.length]; exact hl, G, ρ, xs, ρ', E, a, hg, k⟩
    · cases hg
  · cases hg⟩
/-- xs[i] = .. -/
def gSubT (j : Nat) (di : Den) : DenG := fun y ρ => if isOwnL ρ j then (di ρ).bind fun p => p.1.asInt.bind fun k => (match p.2[j]? with
  | some (.own (.lst xs)) => (ixN xs.length k).map fun m => p.2.set j (.own (.lst (xs.set m y)))
  | _ => none) else none
theorem SM.sub {i : Expr} {j : Nat} {x : Str} {pn : Pos} {di : Den} (hN : X.N[j]? = some x) (hv : Vis X.env.scope x) (hd : (x == ("__debug__" : Str)) = false) (hcd : (x == ("__classdict__" : Str)) = false) (hi : SE X fa i di)
    (ha : ∀ v, assign (.Subscript (.Name x pn) i pos) X.env v = (do
      let ov ← holding [v] (eval (.Name x pn) X.env)
      let iv ← holding [v, ov] (eval i X.env)
      standAt pos
      holding [v, ov, iv] (setItem ov iv v)
      release [v, ov, iv] [])) : SM X fa (.Subscript (.Name x pn) i pos) [] (gSubT j di) := by
  obtain ⟨t, pt, rt⟩ := hi
  refine ⟨fun pins s σ H v u Q I r ⟨G, ρ, y, ρ', E, ry, hg, k⟩ => (pg_sub (pe_var hN hv hd hcd) pt set_list ha).run pins s σ H v u Q I r ?_⟩
  by_cases ho : isOwnL ρ j = true
  · cases q : di ρ with
    | none => simp [gSubT, ho, q] at hg
    | some z =>
      cases q1 : z.1.asInt with
      | none => simp [gSubT, ho, q, q1] at hg
      | some kx =>
        cases q2 : z.2[j]? with
        | none => simp [gSubT, ho, q, q1, q2] at hg
        | some m =>
          cases m with
          | own c =>
            cases c with
            | lst xs =>
              cases q3 : ixN xs.length kx with
              | none => simp [gSubT, ho, q, q1, q2, q3] at hg
              | some mm =>
                simp [gSubT, ho, q, q1, q2, q3] at hg
                subst hg
                obtain ⟨c', hc'⟩ := isOwnL_inv ho
                obtain ⟨a0, o0, e0, g0, h0, r0⟩ := E.own j _ hc'
                refine ⟨_, e0, rt σ G H ρ z.1 z.2 _ E q fun v2 G1 H1 P => ?_⟩
                obtain ⟨p, o, f1, g, f3, f4⟩ := P.env.own j _ q2
                rw [e0] at f1; cases f1
                have rp := P.rep
                rw [asInt_inv q1] at rp
                cases o with
                | lst ws =>
                  have f4 : RepAll X.K fa G1 ws xs := f4
                  refine ⟨a0, ws, kx, mm, rfl, Rep.int_inv rp, f3, by rw [f4.length]; exact q3, ?_⟩
                  have A1 : At X.K fa (Cl σ ρ) G H G1 H1 σ z.2 := ⟨P.env, P.aft⟩
                  exact k σ G1 _ ⟨A1.put (c' := .lst (xs.set mm y)) (o' := .lst (ws.set mm v)) q2 e0 f3 (f4.set mm (ry.mono P.aft.gg)), Slots.refl⟩
                | _ => exact (show False from f4).elim
            | _ => simp [gSubT, ho, q, q1, q2] at hg
          | _ => simp [gSubT, ho, q, q1, q2] at hg
  · simp [gSubT, ho] at hg
theorem SS.asgM {g : DenG} (h : SE X fa e de) (hg : SM X fa tg as g) (hs : swapsWithSole [tg] e pos.line X.env = pure false) (hw : swappedStores [tg] e X.env = pure none) (h1 : (assignEach [tg] X.env).map (·.2) = [assign tg X.env]) :
    SS X fa (.Assign [tg] e pos) as (dAsg de g) := by
  obtain ⟨t, p, r⟩ := h
  have hg' : PG X tg (tDGm X.K fa as g) := hg
  refine ⟨_, ps_asg p hg' hs hw h1, fun σ G H ρ fl ρ' D E hd k => ?_⟩
  cases q : de ρ with
  | none => simp [dAsg, q] at hd
  | some z =>
    cases q1 : z.1.tree with
    | none => simp [dAsg, q, q1] at hd
    | some x =>
      cases q2 : g x z.2 with
      | none => simp [dAsg, q, q1, q2] at hd
      | some ρ2 =>
        simp [dAsg, q, q1, q2] at hd
        obtain ⟨rfl, rfl⟩ := hd
        refine r σ G H ρ z.1 z.2 _ E q fun v G1 H1 P => ?_
        obtain ⟨G2, E2, R2, A2, sm, _⟩ := toTree P.env P.rep P.new P.aft q1
        exact ⟨G2, z.2, x, ρ2, E2, R2, q2, fun σ' G' H' A' => k σ' G' H' ⟨⟨A'.env, A2.trans A'.aft⟩, A'.slots⟩⟩
end
end LW
namespace LW
open PySem PySem.Spec PyProof.Rows L2

/-! ### name op= e -/
section
variable {X : Cx} {fa : Nat → Addr} {e : Expr} {es : List Expr} {pos : Pos} {de : Den}
def dAug (i : Nat) (g : REnv → L → L → Option L) (d : Den) : DenS := fun ρ => match ρ[i]? with
  | some (.t x) => (d ρ).bind fun p => (g p.2 (.t x) p.1).bind fun l => (stoE i l p.2).map fun r => (.nx, r)
  | _ => none
theorem SS.aug {i : Nat} {x : Str} {op : Operator} {r : R2} {g : REnv → L → L → Option L} {pos' : Pos} (hN : X.N.Nodup) (hi : X.N[i]? = some x) (hx : Loc X.env.scope x) (h : SE X fa e de) (ho : OpR X (inplaceOp op) r) (hg : OpT X.K fa r g) (hf : X.fn x = true ∨ X.env.scope.names.lookup x = some .local) :
    SS X fa (.AugAssign (.Name x pos') op e pos) [i] (dAug i g de) := by
  obtain ⟨t, p, rt⟩ := h
  refine ⟨_, ps_aug hN hi hx p ho hf, fun σ G H ρ fl ρ' D E hd k => ?_⟩
  unfold dAug at hd
  split at hd
  · rename_i y q0
    cases q : de ρ with
    | none => simp [q] at hd
    | some z =>
      cases q1 : g z.2 (.t y) z.1 with
      | none => simp [q, q1] at hd
      | some l =>
        cases q2 : stoE i l z.2 with
        | none => simp [q, q1, q2] at hd
        | some ρ2 =>
          simp [q, q1, q2] at hd
          obtain ⟨rfl, rfl⟩ := hd
          obtain ⟨v, e1, e2⟩ := E.t i y q0
          refine ⟨v, e1, rt σ G H ρ z.1 z.2 _ E q fun w G1 H1 P => ?_⟩
          have rv : LRep X.K fa G1 H1 (Cl σ z.2) σ v (.t y) := e2.mono P.aft.gg
          refine hg _ _ _ _ _ _ _ _ _ _ _ _ _ ⟨⟨P.env, P.aft⟩, rv, trivial, P.rep, P.new⟩ q1 fun u G2 H2 R => ?_
          exact k _ G2 H2 (sto_ok R.post q2)
  · cases hd
def gIAdd (_ : REnv) (l1 l2 : L) : Option L :=
  match l1, l2 with
  | .t (.int i), .t (.int j) => some (.t (.int (i + j)))
  | .t (.str i), .t (.str j) => if i.length + j.length ≤ line then some (.t (.str (i ++ j))) else none
  | _, _ => none
theorem opt_iadd {K : PySem.W.Frag} : OpT K fa (fun x y H Q => rI0 (fun i j => .int (i + j)) x y H Q ∨ (∃ i j, x = .str i ∧ y = .str j ∧ i.length + j.length ≤ sizeLine ∧ Q (.str (i ++ j)) H)) gIAdd := by
  intro C0 G0 H0 G H σ ρ v1 v2 l1 l2 l Q O e k
  unfold gIAdd at e
  split at e
  · cases e
    exact .inl ⟨_, _, Rep.int_inv O.r1, Rep.int_inv O.r2, k _ _ _ (O.toAt.int _)⟩
  · split at e
    · rename_i hz
      cases e
      exact .inr ⟨_, _, Rep.str_inv O.r1, Rep.str_inv O.r2, by rw [← line_eq]; exact hz, k _ _ _ (O.toAt.str _)⟩
    · cases e
  · cases e
theorem iop_addT : OpR X (inplaceOp .Add) (fun x y H Q => rI0 (fun i j => .int (i + j)) x y H Q ∨ (∃ i j, x = .str i ∧ y = .str j ∧ i.length + j.length ≤ sizeLine ∧ Q (.str (i ++ j)) H)) := iop_add.or iop_add_str
def gIMul (_ : REnv) (l1 l2 : L) : Option L :=
  match l1, l2 with
  | .t (.int i), .t (.int j) => if (decide (-(18446744073709551616) < i) && decide (i < 18446744073709551616)) || (decide (-(18446744073709551616) < j) && decide (j < 18446744073709551616)) then some (.t (.int (i * j))) else none
  | _, _ => none
theorem opt_imul {K : PySem.W.Frag} : OpT K fa (rI CMul fun i j => .int (i * j)) gIMul := by
  intro C0 G0 H0 G H σ ρ v1 v2 l1 l2 l Q O e k
  unfold gIMul at e
  split at e
  · split at e
    · rename_i h
      cases e
      refine ⟨_, _, Rep.int_inv O.r1, Rep.int_inv O.r2, ?_, k _ _ _ (O.toAt.int _)⟩
      simp only [Bool.or_eq_true, Bool.and_eq_true, decide_eq_true_eq] at h
      rcases h with h | h
      · exact .inl ⟨by omega, by omega⟩
      · exact .inr ⟨by omega, by omega⟩
    · cases e
  · cases e
/-! ### xs[i] op= e -/
theorem get_list : PGet X (rIxL X.K) := by
  intro pins s σ H x y v u Q I rx ry h
  obtain ⟨p, xs, i, z, rfl, rfl, hq, he, q⟩ := h
  cases rx
  obtain ⟨t, rfl⟩ := ry
  obtain ⟨its, r, pl, hz⟩ := I.list hq
  obtain ⟨j, h1, h2, h3, h4, h5⟩ := atI_get he
  obtain ⟨w, ew, rw'⟩ := r.get h2
  have hl := r.length
  have hn := line63
  have fin : EP X pins σ Q w s := ⟨z, H, I, rw', q⟩
  by_cases h0 : 0 ≤ i
  · have hj : i.toNat = j := by
      rw [seqIndex_of h0 h5] at h1
      exact Option.some.inj h1
    exact wpAny_getItem_list pl.isList h0 (by omega) (by rw [hj]; simpa using ew) fin
  · have hj : (i + (its.toArray.size : Int)).toNat = j := by
      rw [seqIndex_neg (by omega) h4] at h1
      rw [List.size_toArray, ← hl]
      exact Option.some.inj h1
    exact wpAny_getItem_list_neg pl.isList (by omega) (by rw [List.size_toArray] <;> omega) (by omega) (by rw [hj]; simpa using ew) fin
def dAugS (j : Nat) (g : REnv → L → L → Option L) (di de : Den) : DenS := fun ρ => if isOwnL ρ j then (di ρ).bind fun p => p.1.asInt.bind fun k => match p.2[j]? with
  | some (.own (.lst xs)) => (atI xs k).bind fun x => (de p.2).bind fun q => (g q.2 (.t x) q.1).bind fun l => l.tree.bind fun z => (match q.2[j]? with
    | some (.own (.lst ys)) => (ixN ys.length k).map fun m => (.nx, q.2.set j (.own (.lst (ys.set m z))))
    | _ => none)
  | _ => none else none
theorem SS.augS {i : Expr} {j : Nat} {x : Str} {pn tpos : Pos} {di : Den} {op : Operator} {r : R2} {g : REnv → L → L → Option L} (hN : X.N[j]? = some x) (hv : Vis X.env.scope x) (hd : (x == ("__debug__" : Str)) = false) (hcd : (x == ("__classdict__" : Str)) = false) (hi : SE X fa i di) (he : SE X fa e de)
    (ho : OpR X (inplaceOp op) r) (hg : OpT X.K fa r g) (ha : ∀ ov iv new, augStore i ov iv new = (do holding [new, ov, iv] (setItem ov iv new); release [new, ov, iv] []; pure .next)) :
    SS X fa (.AugAssign (.Subscript (.Name x pn) i tpos) op e pos) [] (dAugS j g di de) := by
  obtain ⟨t, pt, rt⟩ := hi
  obtain ⟨t2, pt2, rt2⟩ := he
  refine ⟨_, ps_augS (pe_var hN hv hd hcd) pt get_list pt2 ho set_list ha, fun σ G H ρ fl ρ' D E hdd k => ?_⟩
  by_cases hoo : isOwnL ρ j = true
  · obtain ⟨c', hc'⟩ := isOwnL_inv hoo
    obtain ⟨a0, o0, e0, g0, h0, r0⟩ := E.own j _ hc'
    cases q : di ρ with
    | none => simp [dAugS, hoo, q] at hdd
    | some z =>
      cases q1 : z.1.asInt with
      | none => simp [dAugS, hoo, q, q1] at hdd
      | some kx =>
        simp only [dAugS, hoo, q, q1, if_true, Option.bind_some] at hdd
        split at hdd
        · rename_i xs q2
          cases q3 : atI xs kx with
          | none => simp [q3] at hdd
          | some x0 =>
            cases q4 : de z.2 with
            | none => simp [q3, q4] at hdd
            | some w =>
              cases q5 : g w.2 (.t x0) w.1 with
              | none => simp [q3, q4, q5] at hdd
              | some l =>
                cases q6 : l.tree with
                | none => simp [q3, q4, q5, q6] at hdd
                | some zz =>
                  simp only [q3, q4, q5, q6, Option.bind_some] at hdd
                  split at hdd
                  · rename_i ys q7
                    cases q8 : ixN ys.length kx with
                    | none => simp [q8] at hdd
                    | some m =>
                      simp [q8] at hdd
                      obtain ⟨rfl, rfl⟩ := hdd
                      refine ⟨_, e0, rt σ G H ρ z.1 z.2 _ E q fun v1 G1 H1 P1 => ?_⟩
                      obtain ⟨p, o, f1, g1, f3, f4⟩ := P1.env.own j _ q2
                      rw [e0] at f1; cases f1
                      have rp := P1.rep
                      rw [asInt_inv q1] at rp
                      have hk := Rep.int_inv rp
                      cases o with
                      | lst ws =>
                        obtain ⟨vx, hx1, hx2⟩ := atI_rep (show RepAll X.K fa G1 ws xs from f4) q3
                        refine ⟨a0, ws, kx, vx, rfl, hk, .of f3, hx1, ?_⟩
                        refine rt2 σ G1 H1 z.2 w.1 w.2 _ P1.env q4 fun v2 G2 H2 P2 => ?_
                        have A2 : At X.K fa (Cl σ ρ) G H G2 H2 σ w.2 := ⟨P2.env, P1.aft.trans P2.aft⟩
                        have rv : LRep X.K fa G2 H2 (Cl σ w.2) σ vx (.t x0) := hx2.mono P2.aft.gg
                        refine hg _ _ _ _ _ _ _ _ _ _ _ _ _ ⟨A2, rv, trivial, P2.rep, P2.new.aft P1.aft⟩ q5 fun v3 G3 H3 R => ?_
                        obtain ⟨G4, E4, R4, A4, sm4, _⟩ := toTree R.env R.r1 R.n1 R.aft q6
                        obtain ⟨p2, o2, u1, u2, u3, u4⟩ := E4.own j _ q7
                        rw [e0] at u1; cases u1
                        cases o2 with
                        | lst ws2 =>
                          have u4 : RepAll X.K fa G4 ws2 ys := u4
                          refine ⟨a0, ws2, kx, m, rfl, hk, u3, by rw [u4.length]; exact q8, ?_⟩
                          exact k σ G4 _ ⟨(At.put (c' := .lst (ys.set m zz)) (o' := .lst (ws2.set m v3)) ⟨E4, A4⟩ q7 e0 u3 (u4.set m R4)), Slots.refl⟩
                        | _ => exact (show False from u4).elim
                      | _ => exact (show False from f4).elim
                  · cases hdd
        · cases hdd
  · simp [dAugS, hoo] at hdd
end

/-! ### calls of built-ins -/
section
variable {X : Cx} {fa : Nat → Addr} {e e2 : Expr} {es : List Expr} {pos p : Pos} {d d1 d2 : Den} {x : Str} {id T0 : String} {r : List V → Hp → VK → Prop}
theorem SE.bi1 {g : REnv → L → Option L} (hc : CallR X (.builtin id) r) (hg : Gl X x) (hm : X.mg x = none) (hv : bootBuiltins x = some (.builtin id)) (h : SE X fa e d) (ht : UnT X.K fa (fun x H Q => r [x] H Q) g)
    (hn : x ≠ "__name__") (hdb : (x == ("__debug__" : Str)) = false) (he : starEach (e :: []) X.env = (false, eval e X.env) :: starEach [] X.env) : SE X fa (.Call (.Name x p) [e] [] pos) (den1 g d) :=
  h.un (fun ta pa => pe_callB hc hg hm hv (pa_cons pa pa_nil he) hn hdb he rfl) ht
theorem SE.bi2 {g : REnv → L → L → Option L} (hc : CallR X (.builtin id) r) (hg : Gl X x) (hm : X.mg x = none) (hv : bootBuiltins x = some (.builtin id)) (h : SE X fa e d1) (h2 : SE X fa e2 d2) (ht : OpT X.K fa (fun x y H Q => r [x, y] H Q) g)
    (hn : x ≠ "__name__") (hdb : (x == ("__debug__" : Str)) = false) (he : starEach (e :: [e2]) X.env = (false, eval e X.env) :: starEach [e2] X.env) (he2 : starEach (e2 :: []) X.env = (false, eval e2 X.env) :: starEach [] X.env) (hpl : (backTo pos (starEach [e2] X.env)).any (·.1) = false) : SE X fa (.Call (.Name x p) [e, e2] [] pos) (den2 g d1 d2) :=
  h.two h2 (fun ta tb pa pb => pe_callB hc hg hm hv (pa_cons pa (pa_cons pb pa_nil he2) he) hn hdb he hpl) ht
theorem SE.ty1 {g : REnv → L → Option L} (hc : CallR X (.type T0) r) (hg : Gl X x) (hm : X.mg x = none) (hv : bootBuiltins x = some (.type T0)) (h : SE X fa e d) (ht : UnT X.K fa (fun x H Q => r [x] H Q) g)
    (hn : x ≠ "__name__") (hdb : (x == ("__debug__" : Str)) = false) (he : starEach (e :: []) X.env = (false, eval e X.env) :: starEach [] X.env) : SE X fa (.Call (.Name x p) [e] [] pos) (den1 g d) :=
  h.un (fun ta pa => pe_callTy hc hg hm hv (pa_cons pa pa_nil he) hn hdb he rfl) ht
end

section
variable {X : Cx} {K : PySem.W.Frag} {fa : Nat → Addr}
/-- len -/
def gLen (ρ : REnv) (l : L) : Option L := match l with
  | .t (.tup xs) => some (.t (.int xs.length))
  | .t (.lkl xs) => some (.t (.int xs.length))
  | .t (.str z) => if z.length ≤ line then some (.t (.int z.length)) else none
  | l => (l.lview ρ).map fun xs => .t (.int xs.length)
theorem unt_len : UnT K fa (fun x H Q => ∃ y n, [x] = [y] ∧ LenV K y H n ∧ Q (.int n) H) gLen := by
  intro C0 G0 H0 G H σ ρ v1 l1 l Q O e k
  unfold gLen at e
  split at e
  · rename_i xs
    cases e
    cases (show Rep K fa G v1 _ from O.r1) with
    | tup s a => exact ⟨_, _, rfl, .inr ⟨_, same_sqT O.env.same (.of s), rfl⟩, k _ _ _ (by rw [a.length]; exact O.toAt.int _)⟩
  · rename_i xs
    cases e
    cases (show Rep K fa G v1 _ from O.r1) with
    | lkl s a => exact ⟨_, _, rfl, .inl ⟨_, O.env.same.seq s, rfl⟩, k _ _ _ (by rw [a.length]; exact O.toAt.int _)⟩
  · split at e
    · rename_i z hz
      cases e
      have e1 : v1 = V.str z := Rep.str_inv O.r1
      subst e1
      exact ⟨_, z.length, rfl, ⟨by rw [← line_eq]; exact hz, rfl⟩, k _ _ _ (O.toAt.int _)⟩
    · cases e
  · cases q : l1.lview ρ with
    | none => simp [q] at e
    | some xs =>
      simp [q] at e
      subst e
      obtain ⟨a, vs, rfl, hp, rp⟩ := lview_ok O.env O.r1 q
      exact ⟨_, _, rfl, .inl ⟨_, .of hp, rfl⟩, k _ _ _ (by rw [rp.length]; exact O.toAt.int _)⟩
/-- ints out of trees -/
def asInts : List T → Option (List Int)
  | [] => some []
  | .int i :: xs => (asInts xs).map fun r => i :: r
  | _ :: _ => none
theorem asInts_inv : ∀ {xs : List T} {ns : List Int}, asInts xs = some ns → xs = ns.map T.int
  | [], ns, h => by cases h; rfl
  | x :: xs, ns, h => by
    cases x with
    | int i =>
      cases q : asInts xs with
      | none => simp [asInts, q] at h
      | some r =>
        simp [asInts, q] at h
        subst h
        rw [asInts_inv q]
        rfl
    | _ => cases h
theorem asInts_map (ns : List Int) : asInts (ns.map T.int) = some ns := by
  induction ns with
  | nil => rfl
  | cons n ns ih => simp [asInts, ih]
def asBls : List T → Option (List Bool)
  | [] => some []
  | .bl i :: xs => (asBls xs).map fun r => i :: r
  | _ :: _ => none
theorem asBls_inv : ∀ {xs : List T} {ns : List Bool}, asBls xs = some ns → xs = ns.map T.bl
  | [], ns, h => by cases h; rfl
  | x :: xs, ns, h => by
    cases x with
    | bl i =>
      cases q : asBls xs with
      | none => simp [asBls, q] at h
      | some r =>
        simp [asBls, q] at h
        subst h
        rw [asBls_inv q]
        rfl
    | _ => cases h
theorem asBls_map (ns : List Bool) : asBls (ns.map T.bl) = some ns := by
  induction ns with
  | nil => rfl
  | cons n ns ih => simp [asBls, ih]
theorem ints_at {C0 : Addr → Prop} {G0 H0 G H : Hp} {σ : L2.St} {ρ : REnv} {v : V} {l : L} {ns : List Int} (O : Ops1 K fa C0 G0 H0 G H σ ρ v l) (h : (l.lview ρ).bind asInts = some ns) : ∃ a, v = .ref a ∧ SqL K H a (ns.map V.int) := by
  cases q : l.lview ρ with
  | none => simp [q] at h
  | some xs =>
    simp [q] at h
    obtain ⟨a, vs, rfl, hp, rp⟩ := lview_ok O.env O.r1 q
    rw [asInts_inv h] at rp
    rw [RepAll.ints rp] at hp
    exact ⟨a, rfl, .of hp⟩
theorem bls_at {C0 : Addr → Prop} {G0 H0 G H : Hp} {σ : L2.St} {ρ : REnv} {v : V} {l : L} {ns : List Bool} (O : Ops1 K fa C0 G0 H0 G H σ ρ v l) (h : (l.lview ρ).bind asBls = some ns) : ∃ a, v = .ref a ∧ SqL K H a (ns.map V.bl) := by
  cases q : l.lview ρ with
  | none => simp [q] at h
  | some xs =>
    simp [q] at h
    obtain ⟨a, vs, rfl, hp, rp⟩ := lview_ok O.env O.r1 q
    rw [asBls_inv h] at rp
    rw [RepAll.bls rp] at hp
    exact ⟨a, rfl, .of hp⟩
def gSum (ρ : REnv) (l : L) : Option L := ((l.lview ρ).bind asInts).map fun ns => .t (.int ns.sum)
theorem unt_sum : UnT K fa (fun x H Q => rSum K [x] H Q) gSum := by
  intro C0 G0 H0 G H σ ρ v1 l1 l Q O e k
  cases q : (l1.lview ρ).bind asInts with
  | none => simp [gSum, q] at e
  | some ns =>
    simp [gSum, q] at e
    subst e
    obtain ⟨a, rfl, s⟩ := ints_at O q
    exact ⟨a, ns, rfl, s, k _ _ _ (O.toAt.int _)⟩
def gAll (ρ : REnv) (l : L) : Option L := ((l.lview ρ).bind asBls).map fun bs => .t (.bl (bs.all id))
def gAny (ρ : REnv) (l : L) : Option L := ((l.lview ρ).bind asBls).map fun bs => .t (.bl (bs.any id))
theorem unt_all : UnT K fa (fun x H Q => rAll K [x] H Q) gAll := by
  intro C0 G0 H0 G H σ ρ v1 l1 l Q O e k
  cases q : (l1.lview ρ).bind asBls with
  | none => simp [gAll, q] at e
  | some ns =>
    simp only [gAll, q, Option.map_some, Option.some.injEq] at e
    subst e
    obtain ⟨a, rfl, s⟩ := bls_at O q
    exact ⟨a, ns, rfl, s, k _ _ _ (O.toAt.bl _)⟩
theorem unt_any : UnT K fa (fun x H Q => rAny K [x] H Q) gAny := by
  intro C0 G0 H0 G H σ ρ v1 l1 l Q O e k
  cases q : (l1.lview ρ).bind asBls with
  | none => simp [gAny, q] at e
  | some ns =>
    simp only [gAny, q, Option.map_some, Option.some.injEq] at e
    subst e
    obtain ⟨a, rfl, s⟩ := bls_at O q
    exact ⟨a, ns, rfl, s, k _ _ _ (O.toAt.bl _)⟩
/-- the greatest, the least of a list of ints -/
def maxI : List Int → Option Int
  | [] => none
  | x :: xs => match maxI xs with
    | none => some x
    | some m => some (if x < m then m else x)
def minI : List Int → Option Int
  | [] => none
  | x :: xs => match minI xs with
    | none => some x
    | some m => some (if m < x then m else x)
theorem maxI_spec : ∀ {ns : List Int} {m : Int}, maxI ns = some m → m ∈ ns ∧ ∀ y ∈ ns, y ≤ m
  | [], m, h => by cases h
  | x :: xs, m, h => by
    cases q : maxI xs with
    | none =>
      cases xs with
      | nil => simp [maxI] at h; subst h; simp
      | cons y ys => simp [maxI] at q; split at q <;> cases q
    | some k =>
      simp [maxI, q] at h
      obtain ⟨h1, h2⟩ := maxI_spec q
      by_cases hx : x < k
      · rw [if_pos hx] at h; subst h
        refine ⟨List.mem_cons_of_mem _ h1, fun y hy => ?_⟩
        rcases List.mem_cons.mp hy with rfl | hy
        · omega
        · exact h2 y hy
      · rw [if_neg hx] at h; subst h
        refine ⟨List.mem_cons_self, fun y hy => ?_⟩
        rcases List.mem_cons.mp hy with rfl | hy
        · omega
        · have := h2 y hy; omega
theorem minI_spec : ∀ {ns : List Int} {m : Int}, minI ns = some m → m ∈ ns ∧ ∀ y ∈ ns, m ≤ y
  | [], m, h => by cases h
  | x :: xs, m, h => by
    cases q : minI xs with
    | none =>
      cases xs with
      | nil => simp [minI] at h; subst h; simp
      | cons y ys => simp [minI] at q; split at q <;> cases q
    | some k =>
      simp [minI, q] at h
      obtain ⟨h1, h2⟩ := minI_spec q
      by_cases hx : k < x
      · rw [if_pos hx] at h; subst h
        refine ⟨List.mem_cons_of_mem _ h1, fun y hy => ?_⟩
        rcases List.mem_cons.mp hy with rfl | hy
        · omega
        · exact h2 y hy
      · rw [if_neg hx] at h; subst h
        refine ⟨List.mem_cons_self, fun y hy => ?_⟩
        rcases List.mem_cons.mp hy with rfl | hy
        · omega
        · have := h2 y hy; omega
def gMaxL (ρ : REnv) (l : L) : Option L := ((l.lview ρ).bind asInts).bind fun ns => (maxI ns).map fun m => .t (.int m)
def gMinL (ρ : REnv) (l : L) : Option L := ((l.lview ρ).bind asInts).bind fun ns => (minI ns).map fun m => .t (.int m)
theorem unt_maxL : UnT K fa (fun x H Q => rMax K [x] H Q) gMaxL := by
  intro C0 G0 H0 G H σ ρ v1 l1 l Q O e k
  cases q : (l1.lview ρ).bind asInts with
  | none => simp [gMaxL, q] at e
  | some ns =>
    cases q1 : maxI ns with
    | none => simp [gMaxL, q, q1] at e
    | some m =>
      simp [gMaxL, q, q1] at e
      subst e
      obtain ⟨a, rfl, s⟩ := ints_at O q
      obtain ⟨h1, h2⟩ := maxI_spec q1
      refine ⟨a, ns, rfl, s, List.length_pos_of_mem h1, fun m' h3 h4 => ?_⟩
      have e' : m' = m := Int.le_antisymm (h2 m' h3) (h4 m h1)
      subst e'
      exact k _ _ _ (O.toAt.int _)
theorem unt_minL : UnT K fa (fun x H Q => rMin K [x] H Q) gMinL := by
  intro C0 G0 H0 G H σ ρ v1 l1 l Q O e k
  cases q : (l1.lview ρ).bind asInts with
  | none => simp [gMinL, q] at e
  | some ns =>
    cases q1 : minI ns with
    | none => simp [gMinL, q, q1] at e
    | some m =>
      simp [gMinL, q, q1] at e
      subst e
      obtain ⟨a, rfl, s⟩ := ints_at O q
      obtain ⟨h1, h2⟩ := minI_spec q1
      refine ⟨a, ns, rfl, s, List.length_pos_of_mem h1, fun m' h3 h4 => ?_⟩
      have e' : m' = m := Int.le_antisymm (h4 m h1) (h2 m' h3)
      subst e'
      exact k _ _ _ (O.toAt.int _)
def gMax2 (_ : REnv) (l1 l2 : L) : Option L := match l1, l2 with
  | .t (.int i), .t (.int j) => some (.t (.int (if j > i then j else i)))
  | _, _ => none
def gMin2 (_ : REnv) (l1 l2 : L) : Option L := match l1, l2 with
  | .t (.int i), .t (.int j) => some (.t (.int (if j < i then j else i)))
  | _, _ => none
theorem opt_max2 : OpT K fa (fun x y H Q => ∃ i j, [x, y] = [V.int i, V.int j] ∧ Q (.int (if j > i then j else i)) H) gMax2 := by
  intro C0 G0 H0 G H σ ρ v1 v2 l1 l2 l Q O e k
  unfold gMax2 at e
  split at e
  · cases e
    exact ⟨_, _, by rw [Rep.int_inv O.r1, Rep.int_inv O.r2], k _ _ _ (O.toAt.int _)⟩
  · cases e
theorem opt_min2 : OpT K fa (fun x y H Q => ∃ i j, [x, y] = [V.int i, V.int j] ∧ Q (.int (if j < i then j else i)) H) gMin2 := by
  intro C0 G0 H0 G H σ ρ v1 v2 l1 l2 l Q O e k
  unfold gMin2 at e
  split at e
  · cases e
    exact ⟨_, _, by rw [Rep.int_inv O.r1, Rep.int_inv O.r2], k _ _ _ (O.toAt.int _)⟩
  · cases e
def gAbs (_ : REnv) (l : L) : Option L := match l with
  | .t (.int i) => some (.t (.int (if i < 0 then -i else i)))
  | _ => none
theorem unt_abs : UnT K fa (fun x H Q => ∃ i, [x] = [V.int i] ∧ Q (.int (if i < 0 then -i else i)) H) gAbs := by
  intro C0 G0 H0 G H σ ρ v1 l1 l Q O e k
  unfold gAbs at e
  split at e
  · cases e
    exact ⟨_, by rw [Rep.int_inv O.r1], k _ _ _ (O.toAt.int _)⟩
  · cases e
def gInt (_ : REnv) (l : L) : Option L := match l with
  | .t (.int i) => some (.t (.int i))
  | .t (.bl b) => some (.t (.int (if b then 1 else 0)))
  | _ => none
theorem unt_int : UnT K fa (fun x H Q => (∃ i, [x] = [V.int i] ∧ Q (.int i) H) ∨ ∃ k, [x] = [V.bl k] ∧ Q (.int (if k then 1 else 0)) H) gInt := by
  intro C0 G0 H0 G H σ ρ v1 l1 l Q O e k
  unfold gInt at e
  split at e
  · cases e
    exact .inl ⟨_, by rw [Rep.int_inv O.r1], k _ _ _ (O.toAt.int _)⟩
  · cases e
    exact .inr ⟨_, by rw [Rep.bl_inv O.r1], k _ _ _ (O.toAt.int _)⟩
  · cases e
/-- list(x), tuple(x) -/
def gList (ρ : REnv) (l : L) : Option L := match l with
  | .t (.tup xs) => some (.own (.lst xs))
  | .t (.lkl xs) => some (.own (.lst xs))
  | l => (l.lview ρ).map fun xs => .own (.lst xs)
theorem unt_list : UnT K fa (fun x H Q => ∃ p ys, [x] = [V.ref p] ∧ (SqL K H p ys ∨ SqT K H p ys) ∧ ∀ l, H l = none → Q (.ref l) (upd H l (.lst ys))) gList := by
  intro C0 G0 H0 G H σ ρ v1 l1 l Q O e k
  unfold gList at e
  split at e
  · rename_i xs
    cases e
    cases (show Rep K fa G v1 _ from O.r1) with
    | tup s a => exact ⟨_, _, rfl, .inr (same_sqT O.env.same (.of s)), fun l hl => k _ _ _ (O.toAt.lstR hl a)⟩
  · rename_i xs
    cases e
    cases (show Rep K fa G v1 _ from O.r1) with
    | lkl s a => exact ⟨_, _, rfl, .inl (O.env.same.seq s), fun l hl => k _ _ _ (O.toAt.lstR hl a)⟩
  · cases q : l1.lview ρ with
    | none => simp [q] at e
    | some xs =>
      simp [q] at e
      subst e
      obtain ⟨a, vs, rfl, hp, rp⟩ := lview_ok O.env O.r1 q
      exact ⟨_, _, rfl, .inl (.of hp), fun l hl => k _ _ _ (O.toAt.lstR hl rp)⟩
def gTuple (ρ : REnv) (l : L) : Option L := match l with
  | .t (.tup xs) => some (.t (.tup xs))
  | .t (.lkl xs) => some (.t (.tup xs))
  | l => (l.lview ρ).map fun xs => .t (.tup xs)
theorem unt_tuple : UnT K fa (fun x H Q => ∃ p ys, [x] = [V.ref p] ∧ ((SqL K H p ys ∧ ∀ l, H l = none → Q (.ref l) (upd H l (.tup ys))) ∨ (SqT K H p ys ∧ Q (.ref p) H))) gTuple := by
  intro C0 G0 H0 G H σ ρ v1 l1 l Q O e k
  unfold gTuple at e
  split at e
  · rename_i xs
    cases e
    cases (show Rep K fa G v1 _ from O.r1) with
    | tup s a => exact ⟨_, _, rfl, .inr ⟨same_sqT O.env.same (.of s), k _ _ _ (O.toAt.tr (.tup s a))⟩⟩
  · rename_i xs
    cases e
    cases (show Rep K fa G v1 _ from O.r1) with
    | lkl s a => exact ⟨_, _, rfl, .inl ⟨O.env.same.seq s, fun l hl => k _ _ _ (O.toAt.tupR hl a)⟩⟩
  · cases q : l1.lview ρ with
    | none => simp [q] at e
    | some xs =>
      simp [q] at e
      subst e
      obtain ⟨a, vs, rfl, hp, rp⟩ := lview_ok O.env O.r1 q
      exact ⟨_, _, rfl, .inl ⟨.of hp, fun l hl => k _ _ _ (O.toAt.tupR hl rp)⟩⟩
/-- sorted(ints) -/
def insI (x : Int) : List Int → List Int
  | [] => [x]
  | y :: ys => if x ≤ y then x :: y :: ys else y :: insI x ys
def sortI : List Int → List Int
  | [] => []
  | x :: xs => insI x (sortI xs)
theorem insI_perm (x : Int) : ∀ ys : List Int, (insI x ys).Perm (x :: ys)
  | [] => .refl _
  | y :: ys => by
    unfold insI
    split
    · exact .refl _
    · exact ((insI_perm x ys).cons y).trans (List.Perm.swap x y ys)
theorem sortI_perm : ∀ xs : List Int, (sortI xs).Perm xs
  | [] => .refl _
  | x :: xs => (insI_perm x _).trans ((sortI_perm xs).cons x)
theorem insI_sorted (x : Int) : ∀ {ys : List Int}, ys.Pairwise (· ≤ ·) → (insI x ys).Pairwise (· ≤ ·)
  | [], _ => by simp [insI]
  | y :: ys, h => by
    unfold insI
    obtain ⟨h1, h2⟩ := List.pairwise_cons.mp h
    split
    · rename_i hx
      refine List.pairwise_cons.mpr ⟨fun z hz => ?_, h⟩
      rcases List.mem_cons.mp hz with rfl | hz
      · exact hx
      · have := h1 z hz; omega
    · rename_i hx
      refine List.pairwise_cons.mpr ⟨fun z hz => ?_, insI_sorted x h2⟩
      rcases List.mem_cons.mp ((insI_perm x ys).mem_iff.mp hz) with rfl | hz
      · omega
      · exact h1 z hz
theorem sortI_sorted : ∀ xs : List Int, (sortI xs).Pairwise (· ≤ ·)
  | [] => .nil
  | x :: xs => insI_sorted x (sortI_sorted xs)
theorem sorted_unique : ∀ {xs ys : List Int}, xs.Perm ys → xs.Pairwise (· ≤ ·) → ys.Pairwise (· ≤ ·) → xs = ys
  | [], ys, p, _, _ => by rw [List.nil_perm.mp p]
  | x :: xs, [], p, _, _ => by have := p.length_eq; simp at this
  | x :: xs, y :: ys, p, h1, h2 => by
    obtain ⟨a1, a2⟩ := List.pairwise_cons.mp h1
    obtain ⟨b1, b2⟩ := List.pairwise_cons.mp h2
    have e : x = y := by
      have m1 : x ∈ y :: ys := p.mem_iff.mp List.mem_cons_self
      have m2 : y ∈ x :: xs := p.mem_iff.mpr List.mem_cons_self
      rcases List.mem_cons.mp m1 with z | z
      · exact z
      · rcases List.mem_cons.mp m2 with w | w
        · exact w.symm
        · have := b1 x z
          have := a1 y w
          omega
    subst e
    rw [sorted_unique (List.Perm.cons_inv p) a2 b2]
def gSortI (ρ : REnv) (l : L) : Option L := ((l.lview ρ).bind asInts).map fun ns => .own (.lst ((sortI ns).map T.int))
theorem unt_sortI : UnT K fa (fun x H Q => rSortedI K [x] H Q) gSortI := by
  intro C0 G0 H0 G H σ ρ v1 l1 l Q O e k
  cases q : (l1.lview ρ).bind asInts with
  | none => simp [gSortI, q] at e
  | some ns =>
    simp [gSortI, q] at e
    subst e
    obtain ⟨a, rfl, s⟩ := ints_at O q
    refine ⟨a, ns, rfl, s, fun ns' p hp hs hn => ?_⟩
    rw [sorted_unique (hp.trans (sortI_perm ns).symm) hs (sortI_sorted ns)]
    exact k _ _ _ (O.toAt.lstR hn (.of_ints _))
end
end LW
namespace LW
open PySem PySem.Spec PyProof.Rows L2

/-! ### a def's body -/
def finP (fl : Fl) (ρ : REnv) : Option L := match fl with
  | .nx => some (.t .non)
  | .ret (.t x) => some (.t x)
  | .ret (.own c) => some (.own c)
  | .ret (.ref i) => (match ρ[i]? with
    | some (.own c) => some (.own c)
    | _ => none)
  | _ => none
def bodyP (n m : Nat) (d : DenS) (ts : List T) : Option L := if ts.length = n then (d (ts.map L.t ++ List.replicate (m - n) L.un)).bind fun p => finP p.1 p.2 else none
def bodyF (n m : Nat) (as : List Nat) (d : DenS) (xs ts : List T) : Option (L × List T) := if ts.length + 1 = n && !as.contains 0 then (d (L.own (.lst xs) :: (ts.map L.t ++ List.replicate (m - n) L.un))).bind fun (p : Fl × REnv) => match (p.2 : List L)[0]? with
  | some (L.own (OC.lst ys)) => (match p.1 with
    | .ret (.ref 0) => none
    | fl => (finP fl p.2).map fun r => (r, ys))
  | _ => none else none
section
variable {P : Program} {w : World} {K : PySem.W.Frag} {mg : Str → Option Value} {base : Heap} {fa : Nat → Addr} {k : Nat} {x qual : Str} {st : Stmt} {f : Addr} {fd : FuncData} {N ps : List Str} {as : List Nat} {d : DenS}
theorem env_pad {G H : Hp} {σ : L2.St} {ρ : REnv} (E : EnvOk K fa G H σ ρ) (m : Nat) : EnvOk K fa G H (σ ++ List.replicate m none) (ρ ++ List.replicate m L.un) := by
  have key : ∀ (i : Nat) (l : L), l ≠ .un → (ρ ++ List.replicate m L.un)[i]? = some l → ρ[i]? = some l := fun i l n e => by
    by_cases hi : i < ρ.length
    · rwa [List.getElem?_append_left hi] at e
    · rw [List.getElem?_append_right (by omega)] at e
      rw [List.getElem?_replicate] at e
      split at e
      · cases e; exact absurd rfl n
      · cases e
  have up : ∀ (i : Nat) (v : Option V), σ[i]? = some v → (σ ++ List.replicate m none)[i]? = some v := fun i v e => by
    rw [List.getElem?_append_left (List.getElem?_eq_some_iff.mp e).1]
    exact e
  refine ⟨E.same, by simp [E.len], fun i y e => ?_, fun i c e => ?_, fun i j c c' a e1 e2 e3 e4 => ?_⟩
  · obtain ⟨v, h1, h2⟩ := E.t i y (key i _ (fun z => by cases z) e)
    exact ⟨v, up _ _ h1, h2⟩
  · obtain ⟨a, o, h1, h2⟩ := E.own i c (key i _ (fun z => by cases z) e)
    exact ⟨a, o, up _ _ h1, h2⟩
  · have f1 := key i _ (fun z => by cases z) e1
    have f2 := key j _ (fun z => by cases z) e2
    obtain ⟨a1, o1, g1, _⟩ := E.own i c f1
    obtain ⟨a2, o2, g2, _⟩ := E.own j c' f2
    have g1' := up _ _ g1
    have g2' := up _ _ g2
    rw [e3] at g1'
    rw [e4] at g2'
    cases g1'
    cases g2'
    exact E.inj i j c c' a f1 f2 g1 g2
theorem cl_pad {σ : L2.St} {ρ : REnv} {m : Nat} {a : Addr} (hl : ρ.length = σ.length) (h : Cl (σ ++ List.replicate m none) (ρ ++ List.replicate m L.un) a) : Cl σ ρ a := by
  obtain ⟨i, c, e1, e2⟩ := h
  by_cases hi : i < ρ.length
  · rw [List.getElem?_append_left hi] at e1
    rw [List.getElem?_append_left (by omega)] at e2
    exact ⟨i, c, e1, e2⟩
  · rw [List.getElem?_append_right (by omega), List.getElem?_replicate] at e1
    split at e1 <;> cases e1
/-- what the body hands out, its own objects being new -/
theorem fin_rep {G H : Hp} {C0 : Addr → Prop} {σ0 : L2.St} {ρ' : REnv} {fl : Fl} {r : L} {D : Ends} {Q : VK} (e : finP fl ρ' = some r) (hD : D = { nx := fun _ H' => Q .non H', rt := Q })
    (hc : ∀ v σ' G' H' r, AtS K fa C0 G H σ0 as G' H' σ' ρ' → LRep K fa G' H' (fun _ => False) σ' v r → NewL H v r → (∀ i, r ≠ .ref i) → finP fl ρ' = some r → Q v H')
    (own0 : ∀ σ' G' H' (i : Nat) (c : OC) (a : Addr), AtS K fa C0 G H σ0 as G' H' σ' ρ' → fl = .ret (.ref i) → ρ'[i]? = some (.own c) → σ'[i]? = some (some (.ref a)) → H a = none) : Cont K fa C0 G H σ0 as D fl ρ' := by
  subst hD
  cases fl with
  | nx =>
    cases e
    exact fun σ' G' H' A => hc .non σ' G' H' (.t .non) A (show Rep K fa G' .non .non from Rep.non) trivial (fun i z => by cases z) rfl
  | brk => cases e
  | cont => cases e
  | ret l =>
    intro v σ' G' H' A rl nl
    cases l with
    | un => cases e
    | t y => cases e; exact hc v σ' G' H' (.t y) A rl nl (fun i z => by cases z) rfl
    | own c =>
      cases e
      obtain ⟨p, o, rfl, g, n, hh, rr⟩ := rl
      exact hc _ σ' G' H' (.own c) A ⟨p, o, rfl, g, fun z => z, hh, rr⟩ nl (fun i z => by cases z) rfl
    | ref i =>
      have e0 := e
      simp only [finP] at e
      split at e
      · rename_i c q
        cases e
        obtain ⟨p, o, f1, f2, f3, f4⟩ := A.env.own i c q
        have rl : σ'[i]? = some (some v) := rl
        rw [f1] at rl
        cases rl
        exact hc _ σ' G' H' (.own c) A ⟨p, o, rfl, f2, fun z => z, f3, f4⟩ (fun a e => by cases e; exact own0 σ' G' H' i c p A rfl q f1) (fun i z => by cases z) e0
      · cases e
theorem fn_pureK (F : Fun K x qual st f fd) (S : FnScope N ps (defScope st))
    (h : ∀ (cdv : Value) (A : Around) (outer : List Env) (s : Shared) (H : Hp) (E : XK), Room k (A.deeper (envOfC qual (defScope st) s.heap.objs.size f cdv)) →
      SSs (cxOf CX0 P w K mg base N qual (defScope st) f cdv A outer s H E).nox fa (defBody st) as d) : FnOk P w K mg base CX0 (k + 1) f fd ps (spM K fa ps.length (pureF (bodyP ps.length N.length d))) := by
  refine F.ok S (fun vs H Q E q => q.1) (fun cdv A outer s H vs Q E hr q => ?_)
  obtain ⟨t, pt, rt⟩ := h cdv A outer s H E hr
  obtain ⟨hn, G, ls, r, ls', E0, hm, kk⟩ := q
  refine ⟨t, pt, ?_⟩
  cases q1 : allT ls with
  | none => simp [pureF, q1] at hm
  | some ts =>
    have hls := allT_inv q1
    subst hls
    cases q2 : bodyP ps.length N.length d ts with
    | none => simp [pureF, q1, q2] at hm
    | some r' =>
      simp [pureF, q1, q2] at hm
      obtain ⟨rfl, rfl⟩ := hm
      unfold bodyP at q2
      split at q2
      · rename_i hlen
        cases q3 : d (ts.map L.t ++ List.replicate (N.length - ps.length) L.un) with
        | none => simp [q3] at q2
        | some pp =>
          obtain ⟨fl, ρ'⟩ := pp
          simp [q3] at q2
          have E1 := env_pad E0 (N.length - ps.length)
          have hst : L2.start N vs = vs.map some ++ List.replicate (N.length - ps.length) none := by unfold L2.start; rw [hn]
          rw [hst]
          have nocl : ∀ a, ¬ Cl (vs.map some ++ List.replicate (N.length - ps.length) none) (ts.map L.t ++ List.replicate (N.length - ps.length) L.un) a := fun a z => cl_ts (cl_pad E0.len z)
          refine rt _ G H _ fl ρ' _ E1 q3 (fin_rep q2 rfl (fun v σ' G' H' r2 A rr nn nr e2 => ?_) fun σ' G' H' i c a A e1 e2 e3 => ?_)
          · rw [q2] at e2
            cases e2
            have ck : ∀ b, Cl (vs.map some) (ts.map L.t) b → False := fun b z => cl_ts z
            refine kk v G' H' ⟨⟨A.aft.gg, fun a o e n => A.aft.keep a o e (nocl a), fun a o e n g => A.aft.gn a o e (nocl a) g, A.aft.there, fun a z => .inl z⟩, E0.carry A.aft A.env.same fun b z => (ck b z).elim, ?_, nn⟩
            cases r' with
            | un => exact rr
            | t y => exact rr
            | own c =>
              obtain ⟨p, o, rfl, g, n, hh, ro⟩ := rr
              exact ⟨p, o, rfl, g, fun z => ck p z, hh, ro⟩
            | ref i => exact absurd rfl (nr i)
          · rcases A.aft.cs a ⟨i, c, e2, e3⟩ with z | z
            · exact (nocl a z).elim
            · exact z
      · cases q2
theorem fn_pure (F : Fun K x qual st f fd) (S : FnScope N ps (defScope st)) (hmg : mg x = some (.ref f)) (hb : Binds K fd ps [])
    (h : ∀ (cdv : Value) (A : Around) (outer : List Env) (s : Shared) (H : Hp) (E : XK), Room k (A.deeper (envOfC qual (defScope st) s.heap.objs.size f cdv)) →
      SSs (cxOf CX0 P w K mg base N qual (defScope st) f cdv A outer s H E).nox fa (defBody st) as d) : Fn P w K mg base fa (k + 1) x ps.length (pureF (bodyP ps.length N.length d)) :=
  ⟨f, fd, ps, fn_pureK F S h, hmg, F.kp, hb⟩
theorem fn_feed (F : Fun K x qual st f fd) (S : FnScope N ps (defScope st)) (hmg : mg x = some (.ref f)) (hb : Binds K fd ps [])
    (h : ∀ (cdv : Value) (A : Around) (outer : List Env) (s : Shared) (H : Hp) (E : XK), Room k (A.deeper (envOfC qual (defScope st) s.heap.objs.size f cdv)) →
      SSs (cxOf CX0 P w K mg base N qual (defScope st) f cdv A outer s H E).nox fa (defBody st) as d) : Fn P w K mg base fa (k + 1) x ps.length (feedF (bodyF ps.length N.length as d)) := by
  refine ⟨f, fd, ps, F.ok S (fun vs H Q E q => q.1) (fun cdv A outer s H vs Q E hr q => ?_), hmg, F.kp, hb⟩
  obtain ⟨t, pt, rt⟩ := h cdv A outer s H E hr
  obtain ⟨hn, G, ls, r, ls', E0, hm, kk⟩ := q
  refine ⟨t, pt, ?_⟩
  unfold feedF at hm
  split at hm
  · rename_i xs ls
    cases q1 : allT ls with
    | none => simp [q1] at hm
    | some ts =>
      have hls := allT_inv q1
      subst hls
      cases q2 : bodyF ps.length N.length as d xs ts with
      | none => simp [q1, q2] at hm
      | some r' =>
        obtain ⟨r0, ys⟩ := r'
        simp [q1, q2] at hm
        obtain ⟨rfl, rfl⟩ := hm
        unfold bodyF at q2
        split at q2
        · rename_i hlen
          simp only [Bool.and_eq_true, decide_eq_true_eq, Bool.not_eq_true', List.contains_eq_mem, decide_eq_false_iff_not] at hlen
          cases q3 : d (L.own (.lst xs) :: (ts.map L.t ++ List.replicate (N.length - ps.length) L.un)) with
          | none => simp [q3] at q2
          | some pp =>
            obtain ⟨fl, ρ'⟩ := pp
            simp only [q3, Option.bind_some] at q2
            split at q2
            · rename_i ys' q4
              have fin : finP fl ρ' = some r0 ∧ ys' = ys ∧ fl ≠ .ret (.ref 0) := by
                split at q2
                · cases q2
                · rename_i fl2 hne
                  cases q5 : finP fl ρ' with
                  | none => simp [q5] at q2
                  | some r3 =>
                    simp [q5] at q2
                    obtain ⟨rfl, rfl⟩ := q2
                    exact ⟨rfl, rfl, hne⟩
              obtain ⟨fin, rfl, hne⟩ := fin
              have E1 := env_pad E0 (N.length - ps.length)
              have hst : L2.start N vs = vs.map some ++ List.replicate (N.length - ps.length) none := by unfold L2.start; rw [hn]
              rw [hst]
              obtain ⟨a0, o0, e0, g0, h0, r00⟩ := E0.own 0 (.lst xs) rfl
              have cl1 : ∀ a, Cl (vs.map some ++ List.replicate (N.length - ps.length) none) (L.own (.lst xs) :: ts.map L.t ++ List.replicate (N.length - ps.length) L.un) a → a = a0 := fun a z => by
                obtain ⟨i, c, f1, f2⟩ := cl_pad E0.len z
                cases i with
                | zero => rw [e0] at f2; cases f2; rfl
                | succ i =>
                  cases vs with
                  | nil => simp at f2
                  | cons v0 vs => exact (cl_ts (σ := vs.map some) ⟨i, c, f1, by simpa using f2⟩).elim
              have cl2 : ∀ (l : L) a, Cl (vs.map some) (l :: ts.map L.t) a → a = a0 := fun l a z => by
                obtain ⟨i, c, f1, f2⟩ := z
                cases i with
                | zero => rw [e0] at f2; cases f2; rfl
                | succ i =>
                  cases vs with
                  | nil => simp at f2
                  | cons v0 vs => exact (cl_ts (σ := vs.map some) ⟨i, c, f1, by simpa using f2⟩).elim
              have hE0 : (vs.map some ++ List.replicate (N.length - ps.length) (none : Option V))[0]? = some (some (.ref a0)) := by
                rw [List.getElem?_append_left (List.getElem?_eq_some_iff.mp e0).1]; exact e0
              refine rt _ G H _ fl ρ' _ E1 q3 (fin_rep fin rfl (fun v σ' G' H' r2 A rr nn nr e2 => ?_) fun σ' G' H' i c a A e1 e2 e3 => ?_)
              · rw [fin] at e2
                cases e2
                have s0 : σ'[0]? = some (some (.ref a0)) := (A.slots.keep 0 hlen.2).trans hE0
                obtain ⟨a1, o1, u1, u2, u3, u4⟩ := A.env.own 0 _ q4
                rw [s0] at u1; cases u1
                have mem0 : ∀ (l : OC), Cl (vs.map some) (L.own l :: ts.map L.t) a0 := fun l => ⟨0, l, rfl, e0⟩
                have EE : EnvOk K fa G' H' (vs.map some) (L.own (.lst ys') :: ts.map L.t) := by
                  refine ⟨A.env.same, by have := E0.len; simpa using this, fun i y e => ?_, fun i c e => ?_, fun i j c c' b e1 e2 e3 e4 => ?_⟩
                  · cases i with
                    | zero => cases e
                    | succ i =>
                      obtain ⟨v, h1, h2⟩ := E0.t (i + 1) y e
                      exact ⟨v, h1, h2.mono A.aft.gg⟩
                  · cases i with
                    | zero => cases e; exact ⟨a0, o1, e0, u2, u3, u4⟩
                    | succ i =>
                      exfalso
                      have e : (ts.map L.t)[i]? = some (.own c) := e
                      rw [List.getElem?_map] at e
                      cases q : ts[i]? <;> rw [q] at e <;> cases e
                  · have key : ∀ (i : Nat) (c : OC), (L.own (.lst ys') :: ts.map L.t)[i]? = some (.own c) → i = 0 := fun i c e => by
                      cases i with
                      | zero => rfl
                      | succ i =>
                        exfalso
                        have e : (ts.map L.t)[i]? = some (.own c) := e
                        rw [List.getElem?_map] at e
                        cases q : ts[i]? <;> rw [q] at e <;> cases e
                    rw [key i c e1, key j c' e2]
                refine kk v G' H' ⟨⟨A.aft.gg, fun a o e n => A.aft.keep a o e fun z => n (by rw [cl1 a z]; exact mem0 _), fun a o e n g => A.aft.gn a o e (fun z => n (by rw [cl1 a z]; exact mem0 _)) g, A.aft.there, fun a z => .inl (by rw [cl2 _ a z]; exact mem0 _)⟩, EE, ?_, nn⟩
                cases r0 with
                | un => exact rr
                | t y => exact rr
                | own c =>
                  obtain ⟨p, o, rfl, g, n, hh, ro⟩ := rr
                  refine ⟨p, o, rfl, g, fun z => ?_, hh, ro⟩
                  have : H p = none := nn p rfl
                  rw [cl2 _ p z] at this
                  rw [this] at h0; cases h0
                | ref i => exact absurd rfl (nr i)
              · rcases A.aft.cs a ⟨i, c, e2, e3⟩ with z | z
                · have ha := cl1 a z
                  subst ha
                  have s0 : σ'[0]? = some (some (.ref a)) := (A.slots.keep 0 hlen.2).trans hE0
                  have : i = 0 := A.env.inj i 0 c _ a e2 q4 e3 s0
                  subst this
                  exact absurd e1 hne
                · exact z
            · cases q2
        · cases q2
  · cases hm
end
end LW
namespace LW
open PySem PySem.Spec PyProof.Rows L2

/-! ### isinstance(x, T) -/
def isiB (n : String) (x : T) : Option Bool :=
  match n with
  | "list" => (match x with | .lst _ => some true | .lkl _ => some true | .fn _ => none | .dic _ _ _ => none | _ => some false)
  | "tuple" => (match x with | .tup _ => some true | .fn _ => none | .dic _ _ _ => none | _ => some false)
  | "int" => (match x with | .int _ => some true | .bl _ => some true | .fn _ => none | .dic _ _ _ => none | _ => some false)
  | "bool" => (match x with | .bl _ => some true | .fn _ => none | .dic _ _ _ => none | _ => some false)
  | "str" => (match x with | .str _ => some true | .fn _ => none | .dic _ _ _ => none | _ => some false)
  | _ => none
def tyN : T → String
  | .non => "NoneType"
  | .bl _ => "bool"
  | .int _ => "int"
  | .str _ => "str"
  | .lst _ => "list"
  | .tup _ => "tuple"
  | .lkl _ => "list"
  | .fn _ => ""
  | .dic _ _ _ => "dict"
theorem kB_list : kitB "NoneType" "list" = some false ∧ kitB "bool" "list" = some false ∧ kitB "int" "list" = some false ∧ kitB "str" "list" = some false ∧ kitB "list" "list" = some true ∧ kitB "tuple" "list" = some false := by decide +kernel
theorem kB_tuple : kitB "NoneType" "tuple" = some false ∧ kitB "bool" "tuple" = some false ∧ kitB "int" "tuple" = some false ∧ kitB "str" "tuple" = some false ∧ kitB "list" "tuple" = some false ∧ kitB "tuple" "tuple" = some true := by decide +kernel
theorem kB_int : kitB "NoneType" "int" = some false ∧ kitB "bool" "int" = some true ∧ kitB "int" "int" = some true ∧ kitB "str" "int" = some false ∧ kitB "list" "int" = some false ∧ kitB "tuple" "int" = some false := by decide +kernel
theorem kB_bool : kitB "NoneType" "bool" = some false ∧ kitB "bool" "bool" = some true ∧ kitB "int" "bool" = some false ∧ kitB "str" "bool" = some false ∧ kitB "list" "bool" = some false ∧ kitB "tuple" "bool" = some false := by decide +kernel
theorem kB_str : kitB "NoneType" "str" = some false ∧ kitB "bool" "str" = some false ∧ kitB "int" "str" = some false ∧ kitB "str" "str" = some true ∧ kitB "list" "str" = some false ∧ kitB "tuple" "str" = some false := by decide +kernel
theorem isiB_ok {n : String} {x : T} {b : Bool} (h : isiB n x = some b) : kitB (tyN x) n = some b := by
  unfold isiB at h
  split at h
  · cases x <;> cases h <;> first | exact kB_list.1 | exact kB_list.2.1 | exact kB_list.2.2.1 | exact kB_list.2.2.2.1 | exact kB_list.2.2.2.2.1 | exact kB_list.2.2.2.2.2
  · cases x <;> cases h <;> first | exact kB_tuple.1 | exact kB_tuple.2.1 | exact kB_tuple.2.2.1 | exact kB_tuple.2.2.2.1 | exact kB_tuple.2.2.2.2.1 | exact kB_tuple.2.2.2.2.2
  · cases x <;> cases h <;> first | exact kB_int.1 | exact kB_int.2.1 | exact kB_int.2.2.1 | exact kB_int.2.2.2.1 | exact kB_int.2.2.2.2.1 | exact kB_int.2.2.2.2.2
  · cases x <;> cases h <;> first | exact kB_bool.1 | exact kB_bool.2.1 | exact kB_bool.2.2.1 | exact kB_bool.2.2.2.1 | exact kB_bool.2.2.2.2.1 | exact kB_bool.2.2.2.2.2
  · cases x <;> cases h <;> first | exact kB_str.1 | exact kB_str.2.1 | exact kB_str.2.2.1 | exact kB_str.2.2.2.1 | exact kB_str.2.2.2.2.1 | exact kB_str.2.2.2.2.2
  · cases h
theorem tyX_of {K : PySem.W.Frag} {fa : Nat → Addr} {H : Hp} {v : V} {x : T} (r : Rep K fa H v x) (nf : ∀ k, x ≠ .fn k) (nd : ∀ lk ks xs, x ≠ .dic lk ks xs) : TyX K H v (.type (tyN x)) := by
  cases x with
  | non => cases r; exact .base .non
  | bl b => cases r; exact .base (.bl b)
  | int b => cases r; exact .base (.int b)
  | str b => cases r; exact .base (.str b)
  | lst xs => cases r with | lst g _ => exact .base (.lst g)
  | tup xs =>
    cases r with
    | tup s _ =>
      exact .base (.tup s)
  | lkl xs =>
    cases r with
    | lkl s _ =>
      rcases s with (s | ⟨o, s⟩) | ⟨o, its, n, h1, h2, _⟩
      · exact .base (.lst s)
      · exact .base (.frz s)
      · exact .kList h1 h2
  | fn k => exact absurd rfl (nf k)
  | dic lk ks xs => exact absurd rfl (nd lk ks xs)
def gIsi (n : String) (ρ : REnv) (l : L) : Option L := (l.view ρ).bind fun x => (isiB n x).map fun b => .t (.bl b)
theorem unt_isi {K : PySem.W.Frag} {fa : Nat → Addr} {n : String} : UnT K fa (fun x H Q => rIsi K [x, .ty n] H Q) (gIsi n) := by
  intro C0 G0 H0 G H σ ρ v1 l1 l Q O e k
  cases q : l1.view ρ with
  | none => simp [gIsi, q] at e
  | some x =>
    cases q1 : isiB n x with
    | none => simp [gIsi, q, q1] at e
    | some b =>
      simp [gIsi, q, q1] at e
      subst e
      have r := view_ok O.env O.r1 q
      have nf : ∀ k, x ≠ .fn k := fun k z => by
        subst z
        unfold isiB at q1
        split at q1 <;> cases q1
      have nd : ∀ lk ks xs, x ≠ .dic lk ks xs := fun lk ks xs z => by
        subst z
        unfold isiB at q1
        split at q1 <;> cases q1
      exact ⟨v1, .ty n, _, .type n, b, rfl, .ty n, tyX_of r nf nd, kit_ty (isiB_ok q1), k _ _ _ (O.toAt.bl b)⟩
section
variable {X : Cx} {fa : Nat → Addr} {e : Expr} {pos p p2 : Pos} {d : Den}
theorem SE.isi {x : Str} {n : String} (hg : Gl X "isinstance") (hm : X.mg "isinstance" = none) (hg2 : Gl X x) (hm2 : X.mg x = none) (hv2 : bootBuiltins x = some (.type n)) (hn2 : x ≠ "__name__") (hd2 : (x == ("__debug__" : Str)) = false) (h : SE X fa e d)
    (he : starEach (e :: [.Name x p2]) X.env = (false, eval e X.env) :: starEach [.Name x p2] X.env) : SE X fa (.Call (.Name "isinstance" p) [e, .Name x p2] [] pos) (den1 (gIsi n) d) :=
  h.un (fun ta pa => pe_callB call_isi hg hm PyProof.Rows.boot_isinstance (pa_cons pa (pa_cons (pe_bltn (v := .ty n) hg2 hm2 hv2 rfl hn2 hd2) pa_nil rfl) he) (by decide) (by decide) he rfl) unt_isi
end

/-! ### methods of lists that change nothing -/
def gVm (f : List T → T → Option T) (ρ : REnv) (l1 l2 : L) : Option L := (l1.lview ρ).bind fun xs => (l2.view ρ).bind fun y => (f xs y).map L.t
/-- what a rule by trees has to give -/
def VmT (K : PySem.W.Frag) (fa : Nat → Addr) (r : V → List V → Hp → VK → Prop) (f : List T → T → Option T) : Prop :=
  ∀ (G H : Hp) (a : Addr) (ws : List V) (v : V) (xs : List T) (y z : T) (Q : VK), Same G H → RepAll K fa G ws xs → Rep K fa H v y → H a = some (.lst ws) → f xs y = some z → (∀ u, Rep K fa G u z → Q u H) → r (.ref a) [v] H Q
def dVm (f : List T → T → Option T) (d1 d2 : Den) : Den := fun ρ => (d1 ρ).bind fun p => (p.1.lview p.2).bind fun _ => (d2 p.2).bind fun q => (gVm f q.2 p.1 q.1).map fun l => (l, q.2)
section
variable {X : Cx} {fa : Nat → Addr} {e o : Expr} {pos apos cpos : Pos} {d d1 d2 : Den} {name : Str} {id : String} {r : V → List V → Hp → VK → Prop} {f : List T → T → Option T}
theorem SE.vm (slot : Slot "list" name id) (hty : typeOf (.builtin id) = pure (.type "method_descriptor")) (hm : MtR X id r) (vt : VmT X.K fa r f) (ho : SE X fa o d1) (h : SE X fa e d2)
    (hbase : attributeBase o name X.env (eval o X.env) = eval o X.env)
    (hfew : ((backTo cpos (starEach (e :: []) X.env)).all (fun x => !x.1) && (backToKw cpos (keywordEach [] X.env)).all (fun x => x.1.isSome)
      && decide ((e :: []).length + ([] : List Keyword).length + (if ([] : List Keyword).isEmpty then 0 else 1) < 30)) = true)
    (hline : (apos.endLine == cpos.line) = true) (hs : starEach (e :: []) X.env = (false, eval e X.env) :: starEach [] X.env) :
    SE X fa (.Call (.Attribute o name apos) [e] [] cpos) (dVm f d1 d2) := by
  obtain ⟨t1, p1, r1⟩ := ho
  obtain ⟨t2, p2, r2⟩ := h
  refine ⟨_, pe_bm PySem.F.plainAttrs_list slot hty hm p1 (pa_cons p2 pa_nil hs) hbase hfew hline hs rfl, fun σ G H ρ l ρ' Q E hd k => ?_⟩
  cases q : d1 ρ with
  | none => simp [dVm, q] at hd
  | some z =>
    cases q0 : z.1.lview z.2 with
    | none => simp [dVm, q, q0] at hd
    | some xs0 =>
    cases q1 : d2 z.2 with
    | none => simp [dVm, q, q0, q1] at hd
    | some w =>
      cases q2 : z.1.lview w.2 with
      | none => simp [dVm, q, q0, q1, gVm, q2] at hd
      | some xs =>
        cases q3 : w.1.view w.2 with
        | none => simp [dVm, q, q0, q1, gVm, q2, q3] at hd
        | some y =>
          cases q4 : f xs y with
          | none => simp [dVm, q, q0, q1, gVm, q2, q3, q4] at hd
          | some u =>
            simp [dVm, q, q0, q1, gVm, q2, q3, q4] at hd
            obtain ⟨rfl, rfl⟩ := hd
            refine r1 σ G H ρ z.1 z.2 _ E q fun v1 G1 H1 P1 => ?_
            have tv : tyV X.K "list" v1 H1 := by
              obtain ⟨a, vs, rfl, hp, _⟩ := lview_ok P1.env P1.rep q0
              exact .inl ⟨rfl, _, .of hp⟩
            refine ⟨tv, r2 σ G1 H1 z.2 w.1 w.2 _ P1.env q1 fun v2 G2 H2 P2 => ?_⟩
            have O := P1.then2 P2
            obtain ⟨a, vs, rfl, hp, rp⟩ := lview_ok O.env O.r1 q2
            exact vt G2 H2 a vs v2 xs y u _ O.env.same rp (view_ok O.env O.r2 q3) hp q4 fun u' ru => k u' G2 H2 (O.toAt.tr ru).post
end
end LW
namespace LW
open PySem PySem.Spec PyProof.Rows L2

/-! ### dicts whose keys are ints and texts -/
def T.key : T → Option Key
  | .int i => some (.inl i)
  | .str x => some (.inr x)
  | _ => none
def getD (kvs : List (Key × T)) (k : Key) : Option T := (kvs.find? fun kv => decide (kv.1 = k)).map (·.2)
def putD (kvs : List (Key × T)) (k : Key) (x : T) : List (Key × T) :=
  if (kvs.any fun kv => decide (kv.1 = k)) = true then kvs.map (fun kv => if kv.1 = k then (kv.1, x) else kv) else kvs ++ [(k, x)]
def L.dview (ρ : REnv) : L → Option (List (Key × T))
  | .t (.dic _ ks xs) => some (ks.zip xs)
  | .own (.dK kvs) => some kvs
  | .ref i => match ρ[i]? with
    | some (.own (.dK kvs)) => some kvs
    | _ => none
  | _ => none
section
variable {K : PySem.W.Frag} {fa : Nat → Addr} {G G' H H' : Hp} {σ : L2.St} {ρ ρ' : REnv} {C C' : Addr → Prop}
abbrev PrD (K : PySem.W.Frag) (fa : Nat → Addr) (G : Hp) : List (Key × V) → List (Key × T) → Prop := Paired (fun p q => p.1 = q.1 ∧ Rep K fa G p.2 q.2)
theorem prD_zip : ∀ {vs : List (Key × V)} {xs : List T}, RepAll K fa G (vs.map (·.2)) xs → PrD K fa G vs ((vs.map (·.1)).zip xs)
  | [], _, h => by cases h; exact .nil
  | v :: vs, _, h => by
    cases h with
    | cons a b => exact .cons ⟨rfl, a⟩ (prD_zip b)
theorem prD_un : ∀ {vs : List (Key × V)} {kvs : List (Key × T)}, PrD K fa G vs kvs → vs.map (·.1) = kvs.map (·.1) ∧ RepAll K fa G (vs.map (·.2)) (kvs.map (·.2))
  | _, _, .nil => ⟨rfl, .nil⟩
  | _, _, .cons a b => by
    obtain ⟨h1, h2⟩ := prD_un b
    exact ⟨by rw [List.map_cons, List.map_cons, a.1, h1], .cons a.2 h2⟩
theorem prD_get {k : Key} : ∀ {vs : List (Key × V)} {kvs : List (Key × T)}, PrD K fa G vs kvs → (∀ x, getD kvs k = some x → ∃ v, valV vs k = some v ∧ Rep K fa G v x) ∧ (getD kvs k = none → valV vs k = none)
  | _, _, .nil => ⟨fun x e => (by cases e), fun _ => rfl⟩
  | _, _, .cons (a := p) (b := q) a b => by
    obtain ⟨h1, h2⟩ := prD_get b
    by_cases e : q.1 = k
    · have e' : p.1 = k := a.1.trans e
      refine ⟨fun x hx => ?_, fun hx => ?_⟩
      · simp [getD, e] at hx
        subst hx
        exact ⟨_, valV_pos e', a.2⟩
      · simp [getD, e] at hx
    · have e' : ¬ p.1 = k := fun z => e (a.1.symm.trans z)
      refine ⟨fun x hx => ?_, fun hx => ?_⟩
      · rw [valV_neg e']
        exact h1 x (by simpa [getD, List.find?_cons, e] using hx)
      · rw [valV_neg e']
        exact h2 (by simpa [getD, List.find?_cons, e] using hx)
theorem prD_any {k : Key} : ∀ {vs : List (Key × V)} {kvs : List (Key × T)}, PrD K fa G vs kvs → (vs.any fun kv => decide (kv.1 = k)) = (kvs.any fun kv => decide (kv.1 = k))
  | _, _, .nil => rfl
  | _, _, .cons a b => by rw [List.any_cons, List.any_cons, a.1, prD_any b]
theorem prD_map {k : Key} {v : V} {x : T} (r : Rep K fa G v x) : ∀ {vs : List (Key × V)} {kvs : List (Key × T)}, PrD K fa G vs kvs →
    PrD K fa G (vs.map fun kv => if kv.1 = k then (kv.1, v) else kv) (kvs.map fun kv => if kv.1 = k then (kv.1, x) else kv)
  | _, _, .nil => .nil
  | _, _, .cons (a := p) (b := q) a b => by
    rw [List.map_cons, List.map_cons]
    refine .cons ?_ (prD_map r b)
    by_cases e : q.1 = k
    · rw [if_pos e, if_pos (a.1.trans e)]
      exact ⟨a.1, r⟩
    · rw [if_neg e, if_neg fun z => e (a.1.symm.trans z)]
      exact a
theorem prD_app : ∀ {vs ws : List (Key × V)} {kvs lvs : List (Key × T)}, PrD K fa G vs kvs → PrD K fa G ws lvs → PrD K fa G (vs ++ ws) (kvs ++ lvs)
  | _, _, _, _, .nil, g => g
  | _, _, _, _, .cons a b, g => .cons a (prD_app b g)
theorem prD_put {k : Key} {v : V} {x : T} (r : Rep K fa G v x) {vs : List (Key × V)} {kvs : List (Key × T)} (h : PrD K fa G vs kvs) : PrD K fa G (putK vs k v) (putD kvs k x) := by
  unfold putK putD
  rw [prD_any h]
  by_cases e : (kvs.any fun kv => decide (kv.1 = k)) = true
  · rw [if_pos e, if_pos e]
    exact prD_map r h
  · rw [if_neg e, if_neg e]
    exact prD_app h (.cons ⟨rfl, r⟩ .nil)
theorem prD_len : ∀ {vs : List (Key × V)} {kvs : List (Key × T)}, PrD K fa G vs kvs → vs.length = kvs.length
  | _, _, .nil => rfl
  | _, _, .cons a b => by rw [List.length_cons, List.length_cons, prD_len b]
theorem key_V {v : V} {x : T} {k : Key} (r : Rep K fa G v x) (h : x.key = some k) : v = kV k := by
  cases x <;> cases h
  · cases r; rfl
  · cases r; rfl
theorem dview_ok {v : V} {l : L} {xs : List (Key × T)} (E : EnvOk K fa G H σ ρ) (h : LRep K fa G H C σ v l) (e : l.dview ρ = some xs) : ∃ a vs, v = .ref a ∧ Rd H a (.dK vs) ∧ PrD K fa G vs xs := by
  cases l with
  | un => cases e
  | t y =>
    cases y with
    | dic lk ks ts =>
      cases e
      cases (show Rep K fa G v _ from h) with
      | dic g f q r =>
        subst q
        exact ⟨_, _, rfl, g.elim (fun g => .inl (E.same _ _ g)) fun ⟨o, g⟩ => .inr ⟨o, E.same _ _ g⟩, prD_zip r⟩
    | _ => cases e
  | own c =>
    cases c with
    | dK ys =>
      cases e
      obtain ⟨p, o, rfl, g, n, hh, r⟩ := h
      cases o with
      | dK vs => exact ⟨p, vs, rfl, .inl hh, r⟩
      | _ => exact (show False from r).elim
    | _ => cases e
  | ref i =>
    cases q : ρ[i]? with
    | none => simp only [L.dview, q] at e; cases e
    | some m =>
      simp only [L.dview, q] at e
      cases m with
      | own c =>
        cases c with
        | dK ys =>
          cases e
          obtain ⟨a, o, e1, e2, e3, e4⟩ := E.own i _ q
          have e5 : σ[i]? = some (some v) := h
          rw [e1] at e5; cases e5
          cases o with
          | dK vs => exact ⟨a, vs, rfl, .inl e3, e4⟩
          | _ => exact (show False from e4).elim
        | _ => cases e
      | _ => cases e
end
section
variable {X : Cx} {fa : Nat → Addr} {e o f : Expr} {pos apos cpos : Pos} {d d1 d2 d3 : Den}
/-- {} -/
def dDicK : Den := fun ρ => some (.own (.dK []), ρ)
theorem SE.dicK : SE X fa (.Dict [] [] pos) dDicK := by
  refine ⟨_, pe_dnewK, fun σ G H ρ l ρ' Q E hd k => ?_⟩
  cases hd
  intro p hp
  obtain ⟨a, b, c⟩ := (At.start E).newOwn (o := .dK []) (c := .dK []) hp (Paired.nil)
  exact k _ _ _ ⟨a.aft, a.env, b, c⟩
/-- d[k] -/
def gDget (ρ : REnv) (l1 l2 : L) : Option L := (l1.dview ρ).bind fun kvs => (l2.view ρ).bind fun y => y.key.bind fun k => (getD kvs k).map L.t
theorem SE.dget (hu : X.A.units + 1 < cLine) (h1 : SE X fa o d1) (h2 : SE X fa e d2) (hs : NoSl e) : SE X fa (.Subscript o e pos) (den2 gDget d1 d2) := by
  obtain ⟨t1, p1, r1⟩ := h1
  obtain ⟨t2, p2, r2⟩ := h2
  refine ⟨_, pe_dget hu p1 p2 hs, fun σ G H ρ l ρ' Q E hd k => ?_⟩
  cases q : d1 ρ with
  | none => simp [den2, q] at hd
  | some z =>
    cases q1 : d2 z.2 with
    | none => simp [den2, q, q1] at hd
    | some w =>
      cases q2 : z.1.dview w.2 with
      | none => simp [den2, q, q1, gDget, q2] at hd
      | some kvs =>
        cases q3 : w.1.view w.2 with
        | none => simp [den2, q, q1, gDget, q2, q3] at hd
        | some y =>
          cases q4 : y.key with
          | none => simp [den2, q, q1, gDget, q2, q3, q4] at hd
          | some kk =>
            cases q5 : getD kvs kk with
            | none => simp [den2, q, q1, gDget, q2, q3, q4, q5] at hd
            | some u =>
              simp [den2, q, q1, gDget, q2, q3, q4, q5] at hd
              obtain ⟨rfl, rfl⟩ := hd
              refine r1 σ G H ρ z.1 z.2 _ E q fun v1 G1 H1 P1 => r2 σ G1 H1 z.2 w.1 w.2 _ P1.env q1 fun v2 G2 H2 P2 => ?_
              have O := P1.then2 P2
              obtain ⟨a, vs, rfl, hp, rp⟩ := dview_ok O.env O.r1 q2
              obtain ⟨v, hv, rv⟩ := (prD_get rp).1 u q5
              exact ⟨a, v, rfl, .inl ⟨vs, kk, hp, key_V (view_ok O.env O.r2 q3) q4, hv.symm⟩, k v G2 H2 (O.toAt.tr rv).post⟩
/-- d.get(k, x) -/
def dDget2 (d1 d2 d3 : Den) : Den := fun ρ => (d1 ρ).bind fun p => (p.1.dview p.2).bind fun _ => (d2 p.2).bind fun q => (q.1.tree).bind fun y => y.key.bind fun k => (d3 q.2).bind fun z => z.1.tree.bind fun x => (p.1.dview z.2).map fun kvs => (.t ((getD kvs k).getD x), z.2)
theorem SE.dget2 (hu : X.A.units + 1 < cLine) (h1 : SE X fa o d1) (h2 : SE X fa e d2) (h3 : SE X fa f d3) (m : M2 X o "get" apos e f cpos) : SE X fa (.Call (.Attribute o "get" apos) [e, f] [] cpos) (dDget2 d1 d2 d3) := by
  obtain ⟨t1, p1, r1⟩ := h1
  obtain ⟨t2, p2, r2⟩ := h2
  obtain ⟨t3, p3, r3⟩ := h3
  refine ⟨_, pe_dget2 hu p1 p2 p3 m, fun σ G H ρ l ρ' Q E hd k => ?_⟩
  cases q : d1 ρ with
  | none => simp [dDget2, q] at hd
  | some z =>
    cases q0 : z.1.dview z.2 with
    | none => simp [dDget2, q, q0] at hd
    | some kv0 =>
    cases q1 : d2 z.2 with
    | none => simp [dDget2, q, q0, q1] at hd
    | some w =>
      cases q3 : w.1.tree with
      | none => simp [dDget2, q, q0, q1, q3] at hd
      | some y =>
        cases q4 : y.key with
        | none => simp [dDget2, q, q0, q1, q3, q4] at hd
        | some kk =>
          cases q5 : d3 w.2 with
          | none => simp [dDget2, q, q0, q1, q3, q4, q5] at hd
          | some u =>
            cases q6 : u.1.tree with
            | none => simp [dDget2, q, q0, q1, q3, q4, q5, q6] at hd
            | some x =>
              cases q2 : z.1.dview u.2 with
              | none => simp [dDget2, q, q0, q1, q3, q4, q5, q6, q2] at hd
              | some kvs =>
                simp [dDget2, q, q0, q1, q3, q4, q5, q6, q2] at hd
                obtain ⟨rfl, rfl⟩ := hd
                refine r1 σ G H ρ z.1 z.2 _ E q fun v1 G1 H1 P1 => ?_
                obtain ⟨a0, vs0, rfl, hp0, _⟩ := dview_ok P1.env P1.rep q0
                refine ⟨a0, rfl, .inl ⟨vs0, hp0⟩, r2 σ G1 H1 z.2 w.1 w.2 _ P1.env q1 fun v2 G2 H2 P2 => ?_⟩
                obtain ⟨G3, E3, R3, A3, sm3, _⟩ := toTree P2.env P2.rep P2.new P2.aft q3
                refine r3 σ G3 H2 w.2 u.1 u.2 _ E3 q5 fun v3 G4 H4 P4 => ?_
                obtain ⟨G5, E5, R5, A5, sm5, _⟩ := toTree P4.env P4.rep P4.new P4.aft q6
                have r1' := (P1.rep.aft A3).aft A5
                obtain ⟨a, vs, ea, hp, rp⟩ := dview_ok E5 r1' q2
                cases ea
                have A : At X.K fa (Cl σ ρ) G H G5 H4 σ u.2 := ⟨E5, (P1.aft.trans A3).trans A5⟩
                have hk : v2 = kV kk := key_V R3 q4
                cases q7 : getD kvs kk with
                | none => exact ⟨none, .inl ⟨vs, kk, hp, hk, ((prD_get rp).2 q7).symm⟩, k _ _ _ (A.tr (by rw [q7]; exact R5)).post⟩
                | some x7 =>
                  obtain ⟨v7, hv, rv⟩ := (prD_get rp).1 x7 q7
                  exact ⟨some v7, .inl ⟨vs, kk, hp, hk, hv.symm⟩, k _ _ _ (A.tr (by rw [q7]; exact rv)).post⟩
def isOwnD (ρ : REnv) (i : Nat) : Bool := match ρ[i]? with
  | some (.own (.dK _)) => true
  | _ => false
theorem isOwnD_inv {ρ : REnv} {i : Nat} (h : isOwnD ρ i = true) : ∃ xs, ρ[i]? = some (.own (.dK xs)) := by
  unfold isOwnD at h
  split at h
  · rename_i xs e; exact ⟨xs, e⟩
  · cases h
/-- d[k] = v -/
def dDput (i : Nat) (dk dv : Den) : DenS := fun ρ => (dv ρ).bind fun p => p.1.tree.bind fun x => if isOwnD p.2 i then (dk p.2).bind fun q => q.1.tree.bind fun y => y.key.bind fun k => (match q.2[i]? with
  | some (.own (.dK kvs)) => if kvs.length < line then some (.nx, q.2.set i (.own (.dK (putD kvs k x)))) else none
  | _ => none) else none
theorem SS.dput {i : Nat} {x : Str} {pn pos' : Pos} {dk dv : Den} (hu : X.A.units + 1 < cLine) (hN : X.N[i]? = some x) (hv : Vis X.env.scope x) (hd : (x == ("__debug__" : Str)) = false) (hcd : (x == ("__classdict__" : Str)) = false)
    (hk : SE X fa e dk) (h : SE X fa f dv) (hs : swapsWith f (some (.Subscript (.Name x pn) e pos')) pos.line X.env = pure false) : SS X fa (.Assign [.Subscript (.Name x pn) e pos'] f pos) [] (dDput i dk dv) := by
  obtain ⟨t1, p1, r1⟩ := h
  obtain ⟨t2, p2, r2⟩ := hk
  refine ⟨_, ps_dput hu (pe_var hN hv hd hcd) p2 p1 hs, fun σ G H ρ fl ρ' D E hd k => ?_⟩
  cases q : dv ρ with
  | none => simp [dDput, q] at hd
  | some z =>
    cases q1 : z.1.tree with
    | none => simp [dDput, q, q1] at hd
    | some xv =>
      by_cases ho : isOwnD z.2 i = true
      · cases q2 : dk z.2 with
        | none => simp [dDput, q, q1, ho, q2] at hd
        | some w =>
          cases q3 : w.1.tree with
          | none => simp [dDput, q, q1, ho, q2, q3] at hd
          | some y =>
            cases q4 : y.key with
            | none => simp [dDput, q, q1, ho, q2, q3, q4] at hd
            | some kk =>
              cases q5 : w.2[i]? with
              | none => simp [dDput, q, q1, ho, q2, q3, q4, q5] at hd
              | some m =>
                cases m with
                | own c =>
                  cases c with
                  | dK kvs =>
                    by_cases hl : kvs.length < line
                    · simp [dDput, q, q1, ho, q2, q3, q4, q5, hl] at hd
                      obtain ⟨rfl, rfl⟩ := hd
                      refine r1 σ G H ρ z.1 z.2 _ E q fun v1 G1 H1 P1 => ?_
                      obtain ⟨G2, E2, R2, A2, sm2, _⟩ := toTree P1.env P1.rep P1.new P1.aft q1
                      obtain ⟨c', hc'⟩ := isOwnD_inv ho
                      obtain ⟨a0, o0, e0, g0, h0, r0⟩ := E2.own i _ hc'
                      refine ⟨_, e0, r2 σ G2 H1 z.2 w.1 w.2 _ E2 q2 fun v2 G3 H3 P3 => ?_⟩
                      obtain ⟨G4, E4, R4, A4, sm4, _⟩ := toTree P3.env P3.rep P3.new P3.aft q3
                      obtain ⟨p, oo, f1, g, f3, f4⟩ := E4.own i _ q5
                      rw [e0] at f1; cases f1
                      cases oo with
                      | dK ws =>
                        have f4 : PrD X.K fa G4 ws kvs := f4
                        refine ⟨a0, _, rfl, .inl ⟨ws, kk, f3, key_V R4 q4, by rw [prD_len f4, ← line_eq]; exact hl, rfl⟩, ?_⟩
                        have A1 : At X.K fa (Cl σ ρ) G H G4 H3 σ w.2 := ⟨E4, A2.trans A4⟩
                        exact k σ G4 _ ⟨A1.put (c' := .dK (putD kvs kk xv)) (o' := .dK (putK ws kk v1)) q5 e0 f3 (prD_put (R2.mono A4.gg) f4), Slots.refl⟩
                      | _ => exact (show False from f4).elim
                    · simp [dDput, q, q1, ho, q2, q3, q4, q5, hl] at hd
                  | _ => simp [dDput, q, q1, ho, q2, q3, q4, q5] at hd
                | _ => simp [dDput, q, q1, ho, q2, q3, q4, q5] at hd
      · simp [dDput, q, q1, ho] at hd
end
end LW
namespace LW
open PySem PySem.Spec PyProof.Rows L2

/-! ### a dict's keys, the dict locked -/
def keyT : Key → T
  | .inl i => .int i
  | .inr x => .str x
theorem keyT_rep {K : PySem.W.Frag} {fa : Nat → Addr} {G : Hp} (k : Key) : Rep K fa G (kV k) (keyT k) := by
  cases k
  · exact .int _
  · exact .str _
theorem walks_k {K : PySem.W.Frag} {fa : Nat → Addr} {d : Addr} {o : Obj} {vs : List (Key × V)} : Walks K fa (Itk d o vs) [] ((vs.map (·.1)).map keyT) (fun G H => G d = some (.frz o (.dK vs))) where
  go := fun i G H y h s e => by
    have hi : i < vs.length := by
      have := (List.getElem?_eq_some_iff.mp e).1
      simpa using this
    refine ⟨⟨s _ _ h, hi⟩, fun w H' hy => ?_⟩
    obtain ⟨rfl, k, v, hk, rfl⟩ := hy
    refine ⟨G, Aft.same, s, ?_⟩
    have : y = keyT k := by
      simp [hk] at e
      exact e.symm
    subst this
    exact keyT_rep k
  stop := fun i G H h s hi => ⟨s _ _ h, by simpa using hi⟩
  stb := fun C C' G H G' H' h a n => a.gg _ _ h
def iKeysT (d : Den) : DenI := fun ρ => (d ρ).bind fun p => match p.1 with
  | .t (.dic true ks _) => some (ks.map keyT, none, p.2)
  | _ => none
section
variable {X : Cx} {fa : Nat → Addr} {e tg : Expr} {d : Den}
theorem SI.keys (h : SE X fa e d) : SI X fa tg e (iKeysT d) := by
  obtain ⟨t, pt, rt⟩ := h
  refine ⟨_, pi_keys pt, fun σ G H ρ xs ho ρ' R E hd k => ?_⟩
  cases q : d ρ with
  | none => simp [iKeysT, q] at hd
  | some z =>
    obtain ⟨l, ρ1⟩ := z
    cases l with
    | t x =>
      cases x with
      | dic lk ks ts =>
        cases lk with
        | true =>
          simp [iKeysT, q] at hd
          obtain ⟨rfl, rfl, rfl⟩ := hd
          refine rt σ G H ρ _ _ _ E q fun v G1 H1 P => ?_
          cases (show Rep X.K fa G1 v _ from P.rep) with
          | dic g f qq r =>
            obtain ⟨o, f⟩ := f rfl
            subst qq
            exact ⟨_, o, rfl, .inl ⟨_, P.env.same _ _ f, k _ [] _ G1 H1 ⟨P.env, P.aft⟩ walks_k f fun b hb => by cases hb⟩⟩
        | false => simp [iKeysT, q] at hd
      | _ => simp [iKeysT, q] at hd
    | _ => simp [iKeysT, q] at hd
end
mutual
/-- no dict among it -/
def T.noD : T → Bool
  | .dic _ _ _ => false
  | .tup xs => T.noDs xs
  | .lst xs => T.noDs xs
  | .lkl xs => T.noDs xs
  | _ => true
def T.noDs : List T → Bool
  | [] => true
  | x :: xs => T.noD x && T.noDs xs
end
section
variable {K : PySem.W.Frag} {fa : Nat → Addr} {G G' : Hp} {d : Addr} {od : Obj} {ks : List (Key × V)}
mutual
theorem Rep.noD (hd : G d = some (.frz od (.dK ks))) (hG : ∀ a, a ≠ d → G' a = G a) : ∀ {x : T} {v : V}, x.noD = true → Rep K fa G v x → Rep K fa G' v x
  | .non, _, _, h => by cases h; exact .non
  | .bl b, _, _, h => by cases h; exact .bl b
  | .int i, _, _, h => by cases h; exact .int i
  | .str x, _, _, h => by cases h; exact .str x
  | .lst ts, _, n, h => by
    cases h with
    | lst e r =>
      refine .lst ?_ (RepAll.noD hd hG (by simpa only [T.noD] using n) r)
      rw [hG _ fun z => by rw [z, hd] at e; cases e]; exact e
  | .tup ts, _, n, h => by
    cases h with
    | tup e r =>
      refine .tup ?_ (RepAll.noD hd hG (by simpa only [T.noD] using n) r)
      rw [hG _ fun z => by rw [z, hd] at e; cases e]; exact e
  | .lkl ts, _, n, h => by
    cases h with
    | lkl e r =>
      refine .lkl ?_ (RepAll.noD hd hG (by simpa only [T.noD] using n) r)
      rcases e with (e | ⟨o, e⟩) | e
      · exact .inl (.inl (by rw [hG _ fun z => by rw [z, hd] at e; cases e]; exact e))
      · exact .inl (.inr ⟨o, by rw [hG _ fun z => by rw [z, hd] at e; cases e]; exact e⟩)
      · exact .inr e
  | .fn k, _, _, h => by cases h; exact .fn k
  | .dic _ _ _, _, n, _ => by simp [T.noD] at n
theorem RepAll.noD (hd : G d = some (.frz od (.dK ks))) (hG : ∀ a, a ≠ d → G' a = G a) : ∀ {xs : List T} {vs : List V}, T.noDs xs = true → RepAll K fa G vs xs → RepAll K fa G' vs xs
  | [], _, _, h => by cases h; exact .nil
  | x :: xs, _, n, h => by
    simp only [T.noDs, Bool.and_eq_true] at n
    cases h with
    | cons a b => exact .cons (Rep.noD hd hG n.1 a) (RepAll.noD hd hG n.2 b)
end
end
def OC.noD : OC → Bool
  | .lst xs => T.noDs xs
  | .dK ks => T.noDs (ks.map (·.2))
  | .dT ks => T.noDs (ks.map (·.2))
def L.noD : L → Bool
  | .t x => x.noD
  | .own c => c.noD
  | _ => true
theorem ORep.noD {K : PySem.W.Frag} {fa : Nat → Addr} {G G' : Hp} {d : Addr} {od : Obj} {ks : List (Key × V)} (hd : G d = some (.frz od (.dK ks))) (hG : ∀ a, a ≠ d → G' a = G a) {o : HO} {c : OC} (n : c.noD = true) (h : ORep K fa G o c) : ORep K fa G' o c := by
  have pr : ∀ {κ : Type} {vs : List (κ × V)} {ts : List (κ × T)}, T.noDs (ts.map (·.2)) = true → Paired (fun p q => p.1 = q.1 ∧ Rep K fa G p.2 q.2) vs ts → Paired (fun p q => p.1 = q.1 ∧ Rep K fa G' p.2 q.2) vs ts := by
    intro κ vs ts
    induction ts generalizing vs with
    | nil => intro _ h; cases h; exact .nil
    | cons t ts ih =>
      intro n h
      cases h with
      | cons a b =>
        simp only [List.map_cons, T.noDs, Bool.and_eq_true] at n
        exact .cons ⟨a.1, a.2.noD hd hG n.1⟩ (ih n.2 b)
  cases c with
  | lst xs =>
    cases o with
    | lst vs => exact RepAll.noD hd hG n h
    | _ => exact (show False from h).elim
  | dK xs =>
    cases o with
    | dK vs => exact pr n h
    | _ => exact (show False from h).elim
  | dT xs =>
    cases o with
    | dT vs => exact pr n h
    | _ => exact (show False from h).elim
def L.plain : L → Bool
  | .t _ => true
  | .own _ => true
  | _ => false
/-- an expression over a slot's own dict, the dict locked -/
def dLock (i : Nat) (d : Den) : Den := fun ρ => match ρ[i]? with
  | some (.own (.dK kvs)) => (d (ρ.set i (.t (.dic true (kvs.map (·.1)) (kvs.map (·.2)))))).bind fun p => if p.1.plain && p.1.noD && ((p.2 : List L).set i L.un).all L.noD then (match p.2[i]? with
    | some (.t (.dic true ks xs)) => if T.noDs xs then some (p.1, p.2.set i (.own (.dK (ks.zip xs)))) else none
    | _ => none) else none
  | _ => none
theorem SE.lock {X : Cx} {fa : Nat → Addr} {e : Expr} {d : Den} (i : Nat) (h : SE X fa e d) : SE X fa e (dLock i d) := by
  obtain ⟨t, pt, rt⟩ := h
  refine ⟨_, pe_lock pt, fun σ G H ρ l ρ' Q E hd k => ?_⟩
  unfold dLock at hd
  split at hd
  · rename_i kvs hi
    cases q : d (ρ.set i (.t (.dic true (kvs.map (·.1)) (kvs.map (·.2))))) with
    | none => simp [q] at hd
    | some z =>
      rw [q, Option.bind_some] at hd
      split at hd
      · rename_i hc
        split at hd
        · rename_i ks xs hz
          split at hd
          case isFalse => cases hd
          rename_i hxs
          cases hd
          simp only [Bool.and_eq_true] at hc
          obtain ⟨⟨hpl, hno⟩, hall⟩ := hc
          obtain ⟨a, o, hs, hg, hh, ro⟩ := E.own i _ hi
          have hil : i < ρ.length := (List.getElem?_eq_some_iff.mp hi).1
          cases o with
          | dK vs =>
            have ro : PrD X.K fa G vs kvs := ro
            obtain ⟨u1, u2⟩ := prD_un ro
            refine ⟨a, .dK vs, hh, trivial, fun od => ?_⟩
            have ga : ∀ b, b ≠ a → upd G a (.frz od (.dK vs)) b = G b := fun b hb => upd_ne hb
            have smG : Same G (upd G a (.frz od (.dK vs))) := fun b u e => by rw [upd_ne (ne_of_none e hg)]; exact e
            have cl1 : ∀ b, Cl σ (ρ.set i (.t (.dic true (kvs.map (·.1)) (kvs.map (·.2))))) b → Cl σ ρ b ∧ b ≠ a := fun b ⟨j, c, e1, e2⟩ => by
              rcases set_get e1 with ⟨_, z⟩ | ⟨n, f⟩
              · cases z
              · exact ⟨⟨j, c, f, e2⟩, fun z => by subst z; exact n (E.inj j i _ _ _ f hi e2 hs)⟩
            have E1 : EnvOk X.K fa (upd G a (.frz od (.dK vs))) (upd H a (.frz od (.dK vs))) σ (ρ.set i (.t (.dic true (kvs.map (·.1)) (kvs.map (·.2))))) := by
              refine ⟨fun b u e => ?_, by simp [E.len], fun j x e => ?_, fun j c e => ?_, fun j j' c c' b e1 e2 e3 e4 => ?_⟩
              · by_cases hb : b = a
                · subst hb; rw [upd_same] at e ⊢; exact e
                · rw [upd_ne hb] at e ⊢; exact E.same b u e
              · rcases set_get e with ⟨rfl, z⟩ | ⟨_, f⟩
                · cases z
                  refine ⟨_, hs, .dic (.inr ⟨od, upd_same⟩) (fun _ => ⟨od, upd_same⟩) u1 (RepAll.mono smG u2)⟩
                · obtain ⟨v, f1, f2⟩ := E.t j x f
                  exact ⟨v, f1, f2.mono smG⟩
              · rcases set_get e with ⟨_, z⟩ | ⟨n, f⟩
                · cases z
                · obtain ⟨b, u, f1, f2, f3, f4⟩ := E.own j c f
                  have hb : b ≠ a := fun z => by subst z; exact n (E.inj j i _ _ _ f hi f1 hs)
                  exact ⟨b, u, f1, by rw [upd_ne hb]; exact f2, by rw [upd_ne hb]; exact f3, f4.mono smG⟩
              · rcases set_get e1 with ⟨_, z⟩ | ⟨_, f⟩
                · cases z
                · rcases set_get e2 with ⟨_, z⟩ | ⟨_, f'⟩
                  · cases z
                  · exact E.inj j j' c c' b f f' e3 e4
            refine rt σ _ _ _ z.1 z.2 _ E1 q fun v G2 H2 P => ?_
            have hG2a : G2 a = some (.frz od (.dK vs)) := P.aft.gg a _ upd_same
            have hH2a : H2 a = some (.frz od (.dK vs)) := P.env.same a _ hG2a
            refine ⟨hH2a, ?_⟩
            -- the frozen part without a
            let G3 : Hp := fun b => if b = a then none else G2 b
            have g3a : G3 a = none := if_pos rfl
            have g3n : ∀ b, b ≠ a → G3 b = G2 b := fun b hb => if_neg hb
            -- the dict in the slot behind
            have dz : PrD X.K fa G3 vs (ks.zip xs) → EnvOk X.K fa G3 (upd H2 a (.dK vs)) σ (z.2.set i (.own (.dK (ks.zip xs)))) := fun pr => by
              have other : ∀ (j : Nat) (l : L), j ≠ i → z.2[j]? = some l → l.noD = true := fun j l hj e => by
                have : (z.2.set i L.un)[j]? = some l := by rw [List.getElem?_set_ne (Ne.symm hj)]; exact e
                exact List.all_eq_true.mp hall l (List.mem_of_getElem? this)
              have ownA : ∀ (j : Nat) (c : OC) (b : Addr), z.2[j]? = some (.own c) → σ[j]? = some (some (.ref b)) → b ≠ a := fun j c b e1 e2 z => by
                obtain ⟨b', u, f1, f2, _⟩ := P.env.own j c e1
                rw [e2] at f1; cases f1
                rw [z, hG2a] at f2; cases f2
              refine ⟨fun b u e => ?_, by simp [P.env.len], fun j x e => ?_, fun j c e => ?_, fun j j' c c' b e1 e2 e3 e4 => ?_⟩
              · by_cases hb : b = a
                · subst hb; rw [g3a] at e; cases e
                · rw [g3n b hb] at e; rw [upd_ne hb]; exact P.env.same b u e
              · rcases set_get e with ⟨_, z⟩ | ⟨n, f⟩
                · cases z
                · obtain ⟨w, f1, f2⟩ := P.env.t j x f
                  exact ⟨w, f1, f2.noD hG2a g3n (other j _ n f)⟩
              · rcases set_get e with ⟨rfl, z⟩ | ⟨n, f⟩
                · cases z
                  exact ⟨a, .dK vs, hs, g3a, upd_same, pr⟩
                · obtain ⟨b, u, f1, f2, f3, f4⟩ := P.env.own j c f
                  have hb := ownA j c b f f1
                  exact ⟨b, u, f1, by rw [g3n b hb]; exact f2, by rw [upd_ne hb]; exact f3, f4.noD hG2a g3n (other j _ n f)⟩
              · rcases set_get e1 with ⟨rfl, _⟩ | ⟨n1, f1⟩
                · rcases set_get e2 with ⟨rfl, _⟩ | ⟨n2, f2⟩
                  · rfl
                  · rw [hs] at e3; cases e3
                    exact absurd rfl (ownA j' c' _ f2 e4)
                · rcases set_get e2 with ⟨rfl, _⟩ | ⟨n2, f2⟩
                  · rw [hs] at e4; cases e4
                    exact absurd rfl (ownA j c _ f1 e3)
                  · exact P.env.inj j j' c c' b f1 f2 e3 e4
            have pr : PrD X.K fa G3 vs (ks.zip xs) := by
              obtain ⟨w, f1, f2⟩ := P.env.t i _ hz
              rw [hs] at f1; cases f1
              cases f2 with
              | dic g f qq r =>
                obtain ⟨o', f⟩ := f rfl
                rw [hG2a] at f; cases f
                subst qq
                exact prD_zip (RepAll.noD hG2a g3n hxs r)
            have E3 := dz pr
            have clB : ∀ b, Cl σ (z.2.set i (.own (.dK (ks.zip xs)))) b → b = a ∨ Cl σ z.2 b := fun b ⟨j, c, e1, e2⟩ => by
              rcases set_get e1 with ⟨rfl, _⟩ | ⟨_, f⟩
              · rw [hs] at e2; cases e2; exact .inl rfl
              · exact .inr ⟨j, c, f, e2⟩
            have ncA : ∀ b u, H b = some u → ¬ Cl σ ρ b → b ≠ a := fun b u e n z => n (z ▸ ⟨i, _, hi, hs⟩)
            have aft : Aft (Cl σ ρ) (Cl σ (z.2.set i (.own (.dK (ks.zip xs))))) G H G3 (upd H2 a (.dK vs)) := by
              refine ⟨fun b u e => ?_, fun b u e n => ?_, fun b u e n g => ?_, fun b e => ?_, fun b hb => ?_⟩
              · have hb : b ≠ a := ne_of_none e hg
                rw [g3n b hb]; exact P.aft.gg b u (smG b u e)
              · have hb := ncA b u e n
                rw [upd_ne hb]
                exact P.aft.keep b u (by rw [upd_ne hb]; exact e) fun c => n (cl1 b c).1
              · have hb := ncA b u e n
                rw [g3n b hb]
                exact P.aft.gn b u (by rw [upd_ne hb]; exact e) (fun c => n (cl1 b c).1) (by rw [upd_ne hb]; exact g)
              · by_cases hb : b = a
                · subst hb; rw [upd_same] at e; cases e
                · rw [upd_ne hb] at e
                  have := P.aft.there b e
                  rwa [upd_ne hb] at this
              · rcases clB b hb with rfl | hb
                · exact .inl ⟨i, _, hi, hs⟩
                · rcases P.aft.cs b hb with y | y
                  · exact .inl (cl1 b y).1
                  · refine .inr ?_
                    by_cases hb' : b = a
                    · subst hb'; rw [upd_same] at y; cases y
                    · rwa [upd_ne hb'] at y
            refine k v G3 _ ⟨aft, E3, ?_, ?_⟩
            · have rp := P.rep
              have nw := P.new
              cases hl : z.1 with
              | t y => rw [hl] at rp hno; exact Rep.noD hG2a g3n hno rp
              | own c =>
                rw [hl] at rp hno nw
                obtain ⟨p, o, rfl, f1, f2, f3, f4⟩ := rp
                have hp : p ≠ a := fun z => by rw [z, hG2a] at f1; cases f1
                refine ⟨p, o, rfl, by rw [g3n p hp]; exact f1, fun c' => ?_, by rw [upd_ne hp]; exact f3, f4.noD hG2a g3n hno⟩
                rcases clB p c' with y | y
                · exact hp y
                · exact f2 y
              | un => rw [hl] at hpl; cases hpl
              | ref j => rw [hl] at hpl; cases hpl
            · have nw := P.new
              cases hl : z.1 with
              | own c =>
                rw [hl] at nw
                intro p e
                have := nw p e
                by_cases hb : p = a
                · subst hb; rw [upd_same] at this; cases this
                · rwa [upd_ne hb] at this
              | _ => trivial
          | _ => exact (show False from ro).elim
        · cases hd
      · cases hd
  · cases hd
end LW
namespace LW
open PySem PySem.Spec PyProof.Rows L2

/-! ### list.index, list.count -/
def firstEq (y : T) : List T → Option Nat
  | [] => none
  | x :: xs => if T.eqv x y then some 0 else (firstEq y xs).map (· + 1)
theorem firstEq_spec {y : T} : ∀ {xs : List T} {j : Nat}, firstEq y xs = some j → (∃ z, xs[j]? = some z ∧ T.eqv z y = true) ∧ ∀ (m : Nat) (z : T), m < j → xs[m]? = some z → T.eqv z y = false
  | [], j, h => by cases h
  | x :: xs, j, h => by
    unfold firstEq at h
    split at h
    · rename_i e
      cases h
      exact ⟨⟨x, rfl, e⟩, fun m z hm => absurd hm (Nat.not_lt_zero m)⟩
    · rename_i e
      cases q : firstEq y xs with
      | none => rw [q] at h; cases h
      | some j' =>
        rw [q] at h
        cases h
        obtain ⟨⟨z, h1, h2⟩, h3⟩ := firstEq_spec q
        refine ⟨⟨z, by simpa using h1, h2⟩, fun m z hm hz => ?_⟩
        cases m with
        | zero => cases hz; simpa using e
        | succ m => exact h3 m z (by have hm2 : m + 1 < j' + 1 := hm; omega) (by simpa using hz)
def vIndex (xs : List T) (y : T) : Option T := if y.shp && (T.lst xs).shp then (firstEq y xs).map fun j => .int (j : Nat) else none
theorem vm_index {K : PySem.W.Frag} {fa : Nat → Addr} : VmT K fa (rIndexD K) vIndex := by
  intro G H a ws v xs y z Q sm r rv hw e k
  unfold vIndex at e
  split at e
  · rename_i hs
    simp only [Bool.and_eq_true] at hs
    cases q : firstEq y xs with
    | none => rw [q] at e; cases e
    | some j =>
      rw [q] at e
      cases e
      obtain ⟨⟨z, h1, h2⟩, h3⟩ := firstEq_spec q
      have cx : T.clns xs = true := by
        have := hs.2
        simp only [T.shp, Bool.and_eq_true, T.cln] at this
        exact this.1
      have cy : y.cln = true := by
        have := hs.1
        simp only [T.shp, Bool.and_eq_true] at this
        exact this.1
      refine ⟨a, v, y.py, T.pys xs, j, z.py, rfl, rfl, .lst (.of hw) (Rep.dps cx (RepAll.mono sm r)), Rep.dp cy rv, T.shaped hs.2, T.shaped hs.1, ?_, h2, fun m z' hm hz' => ?_, k _ (.int _)⟩
      · rw [pys_map, List.getElem?_map, h1]; rfl
      · rw [pys_map, List.getElem?_map] at hz'
        cases q2 : xs[m]? with
        | none => rw [q2] at hz'; cases hz'
        | some w =>
          rw [q2] at hz'
          cases hz'
          exact h3 m w hm q2
  · cases e
def vCountI (xs : List T) (y : T) : Option T := match y with
  | .int k => (asInts xs).map fun ns => .int (ns.count k : Nat)
  | _ => none
theorem vm_countI {K : PySem.W.Frag} {fa : Nat → Addr} : VmT K fa (rCntI K) vCountI := by
  intro G H a ws v xs y z Q sm r rv hw e k
  unfold vCountI at e
  split at e
  · rename_i kk
    cases q : asInts xs with
    | none => rw [q] at e; cases e
    | some ns =>
      rw [q] at e
      cases e
      have := asInts_inv q
      subst this
      have := r.ints
      subst this
      exact ⟨a, ns, kk, rfl, by rw [rv.int_inv], .of hw, k _ (.int _)⟩
  · cases e

/-! ### sorted, pairs of ints -/
def lexLe (a b : Int × Int) : Prop := a.1 < b.1 ∨ (a.1 = b.1 ∧ a.2 ≤ b.2)
instance (a b : Int × Int) : Decidable (lexLe a b) := inferInstanceAs (Decidable (_ ∨ _))
def insP (x : Int × Int) : List (Int × Int) → List (Int × Int)
  | [] => [x]
  | y :: ys => if lexLe x y then x :: y :: ys else y :: insP x ys
def sortP : List (Int × Int) → List (Int × Int)
  | [] => []
  | x :: xs => insP x (sortP xs)
theorem insP_perm (x : Int × Int) : ∀ ys, (insP x ys).Perm (x :: ys)
  | [] => .refl _
  | y :: ys => by
    unfold insP
    split
    · exact .refl _
    · exact ((insP_perm x ys).cons y).trans (List.Perm.swap x y ys)
theorem sortP_perm : ∀ xs, (sortP xs).Perm xs
  | [] => .refl _
  | x :: xs => (insP_perm x _).trans ((sortP_perm xs).cons x)
theorem insP_sorted (x : Int × Int) : ∀ {ys : List (Int × Int)}, ys.Pairwise lexLe → (insP x ys).Pairwise lexLe
  | [], _ => by simp [insP]
  | y :: ys, h => by
    unfold insP
    obtain ⟨h1, h2⟩ := List.pairwise_cons.mp h
    split
    · rename_i hx
      refine List.pairwise_cons.mpr ⟨fun z hz => ?_, h⟩
      rcases List.mem_cons.mp hz with rfl | hz
      · exact hx
      · have := h1 z hz
        unfold lexLe at *
        omega
    · rename_i hx
      refine List.pairwise_cons.mpr ⟨fun z hz => ?_, insP_sorted x h2⟩
      rcases List.mem_cons.mp ((insP_perm x ys).mem_iff.mp hz) with rfl | hz
      · unfold lexLe at *
        omega
      · exact h1 z hz
theorem sortP_sorted : ∀ xs, (sortP xs).Pairwise lexLe
  | [] => .nil
  | x :: xs => insP_sorted x (sortP_sorted xs)
theorem lex_unique : ∀ {xs ys : List (Int × Int)}, xs.Perm ys → xs.Pairwise lexLe → ys.Pairwise lexLe → xs = ys
  | [], ys, p, _, _ => by rw [List.nil_perm.mp p]
  | x :: xs, [], p, _, _ => by have := p.length_eq; simp at this
  | x :: xs, y :: ys, p, h1, h2 => by
    obtain ⟨a1, a2⟩ := List.pairwise_cons.mp h1
    obtain ⟨b1, b2⟩ := List.pairwise_cons.mp h2
    have e : x = y := by
      have m1 : x ∈ y :: ys := p.mem_iff.mp List.mem_cons_self
      have m2 : y ∈ x :: xs := p.mem_iff.mpr List.mem_cons_self
      rcases List.mem_cons.mp m1 with z | z
      · exact z
      · rcases List.mem_cons.mp m2 with w | w
        · exact w.symm
        · have c1 := b1 x z
          have c2 := a1 y w
          unfold lexLe at c1 c2
          exact Prod.ext (by omega) (by omega)
    subst e
    rw [lex_unique (List.Perm.cons_inv p) a2 b2]
theorem srtd_lex {k : V → Int × Int} {ys : List V} (h : SrtO.Srtd (ltP k) ys) : (ys.map k).Pairwise lexLe := by
  refine List.pairwise_map.mpr (List.Pairwise.imp (fun {x y} h => ?_) h)
  have := SrtO.lexB_no.mp h
  unfold lexLe
  omega
/-- the tuples may lie anywhere -/
def PrT (K : PySem.W.Frag) (H : Hp) (x : V) (p : Int × Int) : Prop := ∃ t, x = V.ref t ∧ SqT K H t [.int p.1, .int p.2]
def rSortedPT (K : PySem.W.Frag) : List V → Hp → VK → Prop := fun vs H Q => ∃ (a : Addr) (xs : List V) (ps : List (Int × Int)), vs = [V.ref a] ∧ SqL K H a xs ∧ xs.length = ps.length ∧ (∀ z ∈ xs.zip ps, PrT K H z.1 z.2) ∧
  ∀ ys p, ys.length = ps.length → (∀ z ∈ ys.zip (sortP ps), z ∈ xs.zip ps) → H p = none → Q (.ref p) (upd H p (.lst ys))
section
variable {X : Cx}
open Classical in
theorem cr_sortedPT : CallR X (.builtin "sorted") (rSortedPT X.K) := by
  intro pins s σ H vs us Q I r h
  obtain ⟨a, xs, ps, rfl, hs, hlen, hz0, q⟩ := h
  let k : V → Int × Int := fun v => if h : ∃ p : Int × Int, PrT X.K H v p then h.choose else (0, 0)
  have kz : ∀ v p, PrT X.K H v p → k v = p := fun v p hp => by
    have hex : ∃ p : Int × Int, PrT X.K H v p := ⟨p, hp⟩
    have e1 : k v = hex.choose := dif_pos hex
    obtain ⟨t, rfl, st⟩ := hp
    obtain ⟨t', et, st'⟩ := hex.choose_spec
    cases et
    have := I.tuple_inj st st'
    simp only [List.cons.injEq, V.int.injEq, and_true] at this
    rw [e1]
    exact Prod.ext this.1.symm this.2.symm
  have hmap : ps = xs.map k := by
    refine List.ext_getElem? fun i => ?_
    rw [List.getElem?_map]
    cases e1 : xs[i]? with
    | none => rw [List.getElem?_eq_none_iff] at e1; rw [Option.map_none, List.getElem?_eq_none_iff]; omega
    | some v =>
      have hi := (List.getElem?_eq_some_iff.mp e1).1
      have hi2 : i < ps.length := by omega
      have e2 : ps[i]? = some ps[i] := List.getElem?_eq_getElem hi2
      have hm : (v, ps[i]) ∈ xs.zip ps := List.mem_of_getElem? (List.getElem?_zip_eq_some.mpr ⟨e1, e2⟩)
      rw [e2, Option.map_some, kz v _ (hz0 _ hm)]
  have hx : ∀ x ∈ xs, ∃ t, x = V.ref t ∧ SqT X.K H t [.int (k x).1, .int (k x).2] := fun x m => by
    obtain ⟨i, hi⟩ := List.getElem?_of_mem m
    have hm : (x, k x) ∈ xs.zip ps := List.mem_of_getElem? (i := i) (List.getElem?_zip_eq_some.mpr ⟨hi, by rw [hmap, List.getElem?_map, hi]; rfl⟩)
    exact hz0 _ hm
  obtain ⟨its, rv, hl, hz⟩ := I.list hs
  rw [Vals.ref1 r]
  obtain ⟨e1, e2⟩ := refs_back rv fun x m => let ⟨t, e, _⟩ := hx x m; ⟨t, e⟩
  refine SrtO.sorted_pairsO (k := fun u => k (backV u)) hl.isList (by rw [← rv.length]; exact hz) (fun v hv => ?_) fun h' d out h1 h2 kp hd hn => ?_
  · obtain ⟨t, rfl⟩ := e2 v hv
    obtain ⟨t', e, ht⟩ := hx (V.ref t) (by rw [e1]; exact List.mem_map.mpr ⟨_, hv, rfl⟩)
    cases e
    obtain ⟨its2, r2, ⟨o, ho, hc, n, hd⟩, _⟩ := I.tuple ht
    obtain ⟨u1, u2, rfl, ⟨t1, rfl⟩, ⟨t2, rfl⟩⟩ := vals2 r2
    exact ⟨t, o, t1, t2, n, rfl, ho, hc, hd⟩
  · have h3 : ∀ u ∈ out, ∃ a, u = Value.ref a := fun u hu => e2 u (h2.perm.mem_iff.mp hu)
    obtain ⟨n, hn⟩ := hn
    have hb : SrtO.Stb (ltP k) (out.map backV) xs := by
      rw [e1]
      exact SrtO.Stb.map (ltP_swo k) backV h2
    have hsr : SrtO.Srtd (ltP k) (out.map backV) := SrtO.srtd_map h1
    have hk : (out.map backV).map k = sortP ps := lex_unique (((hb.perm.map k).trans (by rw [hmap])).trans (sortP_perm ps).symm) (srtd_lex hsr) (sortP_sorted ps)
    refine ⟨.ref d, upd H d (.lst (out.map backV)), I.laid (t' := s.toks) kp hd ⟨by rw [hb.len]; exact hz, out, n, vals_back h3, hn⟩, rfl, q _ d (by rw [hb.len]; exact hlen) (fun z hz => ?_) (I.hok.fresh hd)⟩
    rw [← hk] at hz
    obtain ⟨i, hi⟩ := List.getElem?_of_mem hz
    obtain ⟨f1, f2⟩ := List.getElem?_zip_eq_some.mp hi
    rw [List.getElem?_map, f1, Option.map_some] at f2
    have f2 := Option.some.inj f2
    have hm : z.1 ∈ xs := hb.perm.mem_iff.mp (List.mem_of_getElem? f1)
    obtain ⟨j, hj⟩ := List.getElem?_of_mem hm
    refine List.mem_of_getElem? (i := j) (List.getElem?_zip_eq_some.mpr ⟨hj, ?_⟩)
    rw [hmap, List.getElem?_map, hj, Option.map_some, f2]
end
def asPairs : List T → Option (List (Int × Int))
  | [] => some []
  | .tup [.int i, .int j] :: xs => (asPairs xs).map fun ps => (i, j) :: ps
  | _ => none
def pairT (p : Int × Int) : T := .tup [.int p.1, .int p.2]
theorem asPairs_map : ∀ ps : List (Int × Int), asPairs (ps.map pairT) = some ps
  | [] => rfl
  | p :: ps => by simp [asPairs, pairT, show asPairs (ps.map pairT) = some ps from asPairs_map ps]
theorem asPairs_inv : ∀ {xs : List T} {ps : List (Int × Int)}, asPairs xs = some ps → xs = ps.map pairT
  | [], ps, h => by cases h; rfl
  | x :: xs, ps, h => by
    unfold asPairs at h
    split at h
    · rename_i e; cases e
    · rename_i i j ys e
      cases e
      cases q : asPairs xs with
      | none => rw [q] at h; cases h
      | some qs =>
        rw [q] at h
        cases h
        rw [asPairs_inv q]
        rfl
    · cases h
theorem RepAll.zip_of {K : PySem.W.Frag} {fa : Nat → Addr} {G : Hp} : ∀ {ts : List T} {vs : List V}, vs.length = ts.length → (∀ z ∈ vs.zip ts, Rep K fa G z.1 z.2) → RepAll K fa G vs ts
  | [], [], _, _ => .nil
  | t :: ts, v :: vs, hl, h => .cons (h (v, t) (by simp)) (RepAll.zip_of (by simpa using hl) fun z hz => h z (by rw [List.zip_cons_cons]; exact List.mem_cons_of_mem _ hz))
  | [], _ :: _, hl, _ => by simp at hl
  | _ :: _, [], hl, _ => by simp at hl
theorem RepAll.zip_to {K : PySem.W.Frag} {fa : Nat → Addr} {G : Hp} : ∀ {ts : List T} {vs : List V}, RepAll K fa G vs ts → ∀ z ∈ vs.zip ts, Rep K fa G z.1 z.2
  | [], _, h, z, hz => by cases h; simp at hz
  | t :: ts, _, h, z, hz => by
    cases h with
    | cons a b =>
      rw [List.zip_cons_cons] at hz
      rcases List.mem_cons.mp hz with rfl | hz
      · exact a
      · exact RepAll.zip_to b z hz
theorem zip_mapT {α β γ : Type} (f : β → γ) : ∀ (xs : List α) (ys : List β), xs.zip (ys.map f) = (xs.zip ys).map fun z => (z.1, f z.2)
  | [], _ => by simp
  | _ :: _, [] => by simp
  | x :: xs, y :: ys => by simp [zip_mapT f xs ys]
theorem pair_rep {K : PySem.W.Frag} {fa : Nat → Addr} {G : Hp} {v : V} {p : Int × Int} (r : Rep K fa G v (pairT p)) : PrT K G v p := by
  cases (show Rep K fa G v (.tup [.int p.1, .int p.2]) from r) with
  | tup s a =>
    cases a with
    | cons a1 a2 =>
      cases a2 with
      | cons a2 a3 =>
        cases a3
        cases a1
        cases a2
        exact ⟨_, rfl, .of s⟩
def gSortP (ρ : REnv) (l : L) : Option L := ((l.lview ρ).bind asPairs).map fun ps => .own (.lst ((sortP ps).map pairT))
theorem unt_sortP {K : PySem.W.Frag} {fa : Nat → Addr} : UnT K fa (fun x H Q => rSortedPT K [x] H Q) gSortP := by
  intro C0 G0 H0 G H σ ρ v1 l1 l Q O e k
  cases q : l1.lview ρ with
  | none => simp [gSortP, q] at e
  | some xs =>
    cases q1 : asPairs xs with
    | none => simp [gSortP, q, q1] at e
    | some ps =>
      simp [gSortP, q, q1] at e
      subst e
      have := asPairs_inv q1
      subst this
      obtain ⟨a, ws, rfl, hp, rp⟩ := lview_ok O.env O.r1 q
      have hl : ws.length = ps.length := by rw [rp.length, List.length_map]
      have zr := RepAll.zip_to rp
      rw [zip_mapT] at zr
      refine ⟨a, ws, ps, rfl, .of hp, hl, fun z hz => ?_, fun ys p hly hzy hn => k _ _ _ (O.toAt.lstR hn (RepAll.zip_of (by rw [List.length_map, (sortP_perm ps).length_eq]; exact hly) ?_))⟩
      · obtain ⟨t, e1, e2⟩ := pair_rep (zr _ (List.mem_map.mpr ⟨z, hz, rfl⟩))
        exact ⟨t, e1, same_sqT O.env.same e2⟩
      · rw [zip_mapT]
        intro z hz
        obtain ⟨w, hw, rfl⟩ := List.mem_map.mp hz
        exact zr _ (List.mem_map.mpr ⟨w, hzy w hw, rfl⟩)
end LW
namespace LW
open PySem PySem.Spec PyProof.Rows L2

/-! ### set(xs), xs a list of ints -/
/-- the empty set as it is made -/
abbrev nset (w : World) : Obj := { cls := .type "set", dict := none, data := .set #[] 0 (.fresh 0 0 (!w.params.followText "set-order")) }
abbrev hp1 (w : World) (s : Shared) : Heap := s.heap.push (nset w)
abbrev sh1 (w : World) (s : Shared) : Shared := { s with heap := hp1 w s }
theorem hp1_at {w : World} {s : Shared} : (hp1 w s).get? s.heap.objs.size = some (nset w) := Heap.get?_push_size _ rfl
theorem hp1_sz {w : World} {s : Shared} : (hp1 w s).objs.size = s.heap.objs.size + 1 := Heap.size_push ..
theorem int_item {xs : Array Value} {ns : List Int} (hi : IntsAre xs.toList ns) (hn : xs.size = ns.length) (i : Nat) (v : Value) (hv : xs[i]? = some v) : ∃ k t, ns[i]? = some k ∧ v = .int k t := by
  have lt : i < ns.length := by
    have := (Array.getElem?_eq_some_iff.mp hv).1
    omega
  obtain ⟨t, e⟩ := PyProof.Rows.IntsAre.int_at hi i v (by rw [Array.getElem?_toList, hv])
  have e2 : ns[i]? = some ns[i] := List.getElem?_eq_getElem lt
  exact ⟨ns[i], t, e2, by rw [e, List.getD_eq_getElem?_getD, e2]; rfl⟩
/-- what the filled set is, where it stands -/
def Filled (w : World) (s : Shared) (ns : List Int) (h2 : Heap) (n : Nat) : Prop := SetR w h2 s.heap.objs.size (fun j => decide (j ∈ ns)) n ∧ n ≤ ns.length ∧ ∀ b o, s.heap.get? b = some o → h2.get? b = some o
section
variable {P : Program} {w : World} {A : Around} {E : Value → Shared → Prop} {s : Shared}
set_option maxHeartbeats 3200000 in
theorem setl_call {l : Addr} {xs : Array Value} (ns : List Int) {Q : Value → Shared → Prop} (hA : A.handled = none) (hL : s.heap.IsList l xs) (hi : IntsAre xs.toList ns) (few : ns.length + 1 < scanBound)
    (kk : ∀ (h2 : Heap) (tk n : Nat), Filled w s ns h2 n → Q (.ref s.heap.objs.size) { s with heap := h2, toks := tk }) : wpAny (model P w) A (call (.type "set") [.ref l]) Q E s := by
  have sz : xs.size = ns.length := by have := IntsAre.length hi; rwa [Array.length_toList] at this
  have ⟨c, tl, m0⟩ := F.called_set.mro
  have m1 := F.called_set.made; have m2 := F.called_set.sub; have m3 := F.called_set.notType; have m4 := F.called_set.canCreate; have m5 := F.typeCall_set_1 (.ref l)
  refine wpAny_call (codeAny_of_tree (show wpAny _ _ (callAny (.type "set") _) _ _ _ from wpAny_pure ⟨Code.quiet_builtin _ (by decide +kernel), codeAny_builtin F.entry_type_call ?_⟩))
  rw [Around.under_plain (weight_type_call_type "set" [.ref l] []) rfl]
  repeat any_goals first | assumption | wp_step
  -- the new set
  refine codeAny_mono (code_set_led1 (.ref l) (E := E) (Q₁ := fun v s1 => v = .ref s.heap.objs.size ∧ s1 = sh1 w s) ⟨rfl, rfl⟩) fun r s1 hr => ?_
  rcases r with e | fl
  · exact hr
  cases fl with
  | next => exact hr.elim
  | brk => exact hr.elim
  | cont => exact hr.elim
  | ret v =>
    obtain ⟨rfl, rfl⟩ := hr
    have ty : Shared.TypeIs (sh1 w s) (.ref s.heap.objs.size) "set" := ⟨_, hp1_at, rfl⟩
    have n1 := F.called_set.init.lookup; have n2 := F.called_set.init.bind (.ref s.heap.objs.size)
    repeat any_goals first | assumption | wp_step
    -- its __init__
    refine codeAny_mono (codeAny_call_builtin (R := wants (fun v s2 => v = .none ∧ ∃ h2 tk n, s2 = { s with heap := h2, toks := tk } ∧ Filled w s ns h2 n) E) F.called_set.init.plain F.entry_set_init (check_set_init_1 ty ?_)) fun r s2 hr => ?_
    · obtain ⟨⟨oc, od, ot, os⟩, g1, g2, g3, g4⟩ := hL
      simp only at g2 g4
      subst g2 g4
      have at1 : (hp1 w s).get? l = some { cls := .type "list", dict := od, data := .seq xs g3, slots := os } := Heap.get?_push_of_some _ g1
      have L1 : (hp1 w s).IsList l xs := ⟨_, at1, rfl, g3, rfl⟩
      have u1 := F.sub_list_set; have u2 := F.sub_list_frozenset; have u3 : (Value.type "list" == Value.type "dict") = false := by decide
      unfold Builtin.«set.__init__» noKeywords Builtin.Frozenset.updateFrom
      generalize hq : pyIter = PI
      wp_walk
      subst hq
      refine wpAny_pyIter_list L1 (wpAny_bind (wpAny_runValue ?_))
      have lt := Heap.lt_size g1
      have hA3 : A.in1.in1.in1.handled = none := by simp [hA]
      have d1 : l ≠ (hp1 w s).objs.size := hp1_sz ▸ Nat.ne_of_lt (Nat.lt_succ_of_lt lt)
      have d2 : s.heap.objs.size ∉ [(hp1 w s).objs.size, l] := by
        simp only [hp1_sz, List.mem_cons, List.not_mem_nil, or_false, not_or]
        exact ⟨Nat.ne_of_lt (Nat.lt_succ_self _), Nat.ne_of_gt lt⟩
      refine set_update_ints ((Walks.list hA3 _ l d1 xs).toS) s.heap.objs.size d2 ns sz few (int_item hi sz) (xs.size - 0) 0 _ (by omega) (Nat.zero_le _) ⟨⟨_, Heap.get?_push_size _ rfl, rfl, rfl⟩, (L1.push _)⟩ ?first ?rest
      case first => exact ⟨0, Nat.le_refl 0, setR_new_at (Heap.get?_push_of_some _ hp1_at)⟩
      case rest =>
        rintro ⟨h2, x1, x2, tk, x3⟩ n hm hn hS
        obtain rfl : x1 = s.gens := hm.gens
        obtain rfl : x2 = s.drawn := hm.drawn
        obtain rfl : x3 = s.os := hm.os
        refine wpAny_pure (show wpAny _ _ (ret Value.none) _ _ _ from wpAny_pure ⟨rfl, h2, tk, n, rfl, hS, sz ▸ hn, fun b o e => ?_⟩)
        refine hm.heap b o ?_ (Heap.get?_push_of_some _ (Heap.get?_push_of_some _ e))
        have lb := Heap.lt_size e
        simp only [hp1_sz, List.mem_cons, List.not_mem_nil, or_false, not_or]
        exact ⟨Nat.ne_of_lt lb, Nat.ne_of_lt (Nat.lt_succ_of_lt lb)⟩
    · rcases r with e | fl
      · exact hr
      cases fl with
      | next => exact hr.elim
      | brk => exact hr.elim
      | cont => exact hr.elim
      | ret v =>
        obtain ⟨rfl, h2, tk, n, rfl, hF⟩ := hr
        repeat any_goals first | assumption | wp_step
        exact kk _ _ _ hF
end
end LW
namespace LW
open PySem PySem.Spec PyProof.Rows L2

def insU (x : Int) : List Int → List Int
  | [] => [x]
  | y :: ys => if x < y then x :: y :: ys else if x = y then y :: ys else y :: insU x ys
def sortU : List Int → List Int
  | [] => []
  | x :: xs => insU x (sortU xs)
theorem mem_insU {x k : Int} : ∀ {ys : List Int}, k ∈ insU x ys ↔ k = x ∨ k ∈ ys
  | [] => by simp [insU]
  | y :: ys => by
    unfold insU
    split
    · simp
    · split
      · rename_i e; subst e; simp
      · simp [mem_insU (ys := ys)]
        constructor
        · rintro (h | h | h)
          · exact .inr (.inl h)
          · exact .inl h
          · exact .inr (.inr h)
        · rintro (h | h | h)
          · exact .inr (.inl h)
          · exact .inl h
          · exact .inr (.inr h)
theorem mem_sortU {k : Int} : ∀ {xs : List Int}, k ∈ sortU xs ↔ k ∈ xs
  | [] => by simp [sortU]
  | x :: xs => by rw [sortU, mem_insU, mem_sortU, List.mem_cons]
theorem insU_sorted (x : Int) : ∀ {ys : List Int}, ys.Pairwise (· < ·) → (insU x ys).Pairwise (· < ·)
  | [], _ => by simp [insU]
  | y :: ys, h => by
    unfold insU
    obtain ⟨h1, h2⟩ := List.pairwise_cons.mp h
    split
    · rename_i hx
      refine List.pairwise_cons.mpr ⟨fun z hz => ?_, h⟩
      rcases List.mem_cons.mp hz with rfl | hz
      · exact hx
      · have := h1 z hz; omega
    · split
      · exact h
      · refine List.pairwise_cons.mpr ⟨fun z hz => ?_, insU_sorted x h2⟩
        rcases mem_insU.mp hz with rfl | hz
        · omega
        · exact h1 z hz
theorem sortU_sorted : ∀ xs : List Int, (sortU xs).Pairwise (· < ·)
  | [] => .nil
  | x :: xs => insU_sorted x (sortU_sorted xs)
/-- two strictly rising lists of the same members are one -/
theorem rise_unique : ∀ {xs ys : List Int}, (∀ k, k ∈ xs ↔ k ∈ ys) → xs.Pairwise (· < ·) → ys.Pairwise (· < ·) → xs = ys
  | [], [], _, _, _ => rfl
  | [], y :: ys, p, _, _ => by have := (p y).mpr List.mem_cons_self; cases this
  | x :: xs, [], p, _, _ => by have := (p x).mp List.mem_cons_self; cases this
  | x :: xs, y :: ys, p, h1, h2 => by
    obtain ⟨a1, a2⟩ := List.pairwise_cons.mp h1
    obtain ⟨b1, b2⟩ := List.pairwise_cons.mp h2
    have e : x = y := by
      have m1 : x ∈ y :: ys := (p x).mp List.mem_cons_self
      have m2 : y ∈ x :: xs := (p y).mpr List.mem_cons_self
      rcases List.mem_cons.mp m1 with z | z
      · exact z
      · rcases List.mem_cons.mp m2 with w | w
        · exact w.symm
        · have := b1 x z
          have := a1 y w
          omega
    subst e
    rw [rise_unique (fun k => ?_) a2 b2]
    constructor
    · intro hk
      rcases List.mem_cons.mp ((p k).mp (List.mem_cons_of_mem _ hk)) with rfl | h
      · have := a1 k hk; omega
      · exact h
    · intro hk
      rcases List.mem_cons.mp ((p k).mpr (List.mem_cons_of_mem _ hk)) with rfl | h
      · have := b1 k hk; omega
      · exact h
theorem nodup_le {α : Type} [BEq α] [LawfulBEq α] : ∀ {xs ys : List α}, xs.Nodup → (∀ k ∈ xs, k ∈ ys) → xs.length ≤ ys.length
  | [], _, _, _ => Nat.zero_le _
  | x :: xs, ys, n, h => by
    obtain ⟨n1, n2⟩ := List.nodup_cons.mp n
    have hx : x ∈ ys := h x List.mem_cons_self
    have := nodup_le (xs := xs) (ys := ys.erase x) n2 fun k hk => (List.mem_erase_of_ne fun z => n1 (by rw [← z]; exact hk)).mpr (h k (List.mem_cons_of_mem _ hk))
    rw [List.length_erase_of_mem hx] at this
    have : 0 < ys.length := List.length_pos_of_mem hx
    simp only [List.length_cons]
    omega
theorem rise_nodup {xs : List Int} (h : xs.Pairwise (· < ·)) : xs.Nodup := List.Pairwise.imp (fun {a b} h => by omega) h
/-- set(xs) -/
def rSetL (K : PySem.W.Frag) (w : World) : List V → Hp → VK → Prop := fun xs H Q => ∃ (l : Addr) (ns : List Int), xs = [V.ref l] ∧ SqL K H l (ns.map V.int) ∧ ns.length + 1 < scanBound ∧
  ∀ a, H a = none → Q (.ref a) (upd H a (SetO w a (fun j => decide (j ∈ ns)) (sortU ns).length))
section
variable {X : Cx}
theorem cr_setL (hc : X.calm = true) : CallR X (.type "set") (rSetL X.K X.w) := by
  intro pins s σ H xs us Q I r h
  obtain ⟨l, ns, rfl, hl, hb, q⟩ := h
  rw [Vals.ref1 r]
  obtain ⟨its, rv, pl, hz⟩ := I.list hl
  have hn : H s.heap.objs.size = none := I.hok.fresh (Nat.le_refl _)
  refine setl_call (P := X.prog) (w := X.w) ns (I.ok.hd hc) pl.isList (by simpa using ints_of_vals rv) hb fun h' tk c ⟨R, hc2, kp⟩ => ?_
  have hcard : c = (sortU ns).length := by
    obtain ⟨o, es, ep, t, _, _, _, _, nd, mem, _, _, hn2, _⟩ := R
    have e1 : (es.toList.map keyOf).length = c := by rw [List.length_map, Array.length_toList]; exact hn2
    rw [← e1]
    refine Nat.le_antisymm (nodup_le nd fun k hk => ?_) (nodup_le (rise_nodup (sortU_sorted ns)) fun k hk => ?_)
    · exact mem_sortU.mpr (of_decide_eq_true ((mem k).mpr hk))
    · exact (mem k).mp (decide_eq_true (mem_sortU.mp hk))
  subst hcard
  exact ⟨.ref s.heap.objs.size, upd H s.heap.objs.size (SetO X.w s.heap.objs.size (fun j => decide (j ∈ ns)) (sortU ns).length), I.laid (t' := tk) kp (Nat.le_refl _) (setO_new R), rfl, q _ hn⟩
end
/-- sorted(set(xs)), few members -/
def gSortSet (ρ : REnv) (l : L) : Option L := ((l.lview ρ).bind asInts).bind fun ns => if ns.length ≤ 4000 && decide ((sortU ns).length < 64) then some (.own (.lst ((sortU ns).map T.int))) else none
section
variable {X : Cx} {fa : Nat → Addr} {e : Expr} {d : Den} {p1 p2 pos pos2 : Pos}
theorem SE.sortSet (hc : X.calm = true) (hg : Gl X "sorted") (hm : X.mg "sorted" = none) (hg2 : Gl X "set") (hm2 : X.mg "set" = none) (h : SE X fa e d)
    (he : starEach [e] X.env = (false, eval e X.env) :: starEach [] X.env) (he2 : starEach [.Call (.Name "set" p2) [e] [] pos2] X.env = (false, eval (.Call (.Name "set" p2) [e] [] pos2) X.env) :: starEach [] X.env) :
    SE X fa (.Call (.Name "sorted" p1) [.Call (.Name "set" p2) [e] [] pos2] [] pos) (den1 gSortSet d) := by
  obtain ⟨t, pt, rt⟩ := h
  refine ⟨_, pe_callB (cr_sortedSet hc) hg hm PyProof.Rows.boot_sorted (pa_cons (pe_callTy (cr_setL hc) hg2 hm2 PyProof.Rows.boot_set (pa_cons pt pa_nil he) (by decide) (by decide) he rfl) pa_nil he2) (by decide) (by decide) he2 rfl, fun σ G H ρ l ρ' Q E hd k => ?_⟩
  cases q : d ρ with
  | none => simp [den1, q] at hd
  | some z =>
    cases q1 : (z.1.lview z.2).bind asInts with
    | none => simp [den1, q, gSortSet, q1] at hd
    | some ns =>
      by_cases hz : (ns.length ≤ 4000 && decide ((sortU ns).length < 64)) = true
      · simp [den1, q, gSortSet, q1, hz] at hd
        obtain ⟨_, rfl, rfl⟩ := hd
        simp only [Bool.and_eq_true, decide_eq_true_eq] at hz
        refine rt σ G H ρ z.1 z.2 _ E q fun v1 G1 H1 P1 => ?_
        obtain ⟨a, rfl, hs⟩ := ints_at P1.ops1 q1
        refine ⟨a, ns, rfl, hs, by unfold scanBound; omega, fun b hb => ?_⟩
        have A1 : At X.K fa (Cl σ ρ) G H G1 (upd H1 b (SetO X.w b (fun j => decide (j ∈ ns)) (sortU ns).length)) σ z.2 := At.alloc ⟨P1.env, P1.aft⟩ hb
        refine ⟨b, _, _, rfl, upd_same, hz.2, fun ns2 p h1 h2 h3 hp => ?_⟩
        have e2 : ns2 = sortU ns := rise_unique (fun j => by rw [h2, mem_sortU]; simp) h1 (sortU_sorted ns)
        subst e2
        exact k _ _ _ (A1.lstR hp (RepAll.of_ints _)).post
      · simp [den1, q, gSortSet, q1, hz] at hd
        simp at hz
        omega
end
end LW
namespace LW
open PySem PySem.Spec PyProof.Rows L2

/-! ### facts of names, by one Bool each -/
def locO : Option NameKind → Bool
  | some .local => true
  | _ => false
def celO : Option NameKind → Bool
  | some .cell => true
  | _ => false
def visO : Option NameKind → Bool
  | some .local => true
  | some .cell => true
  | some .free => true
  | _ => false
theorem vis_of {sc : Scope} {x : Str} (h : visO (sc.names.lookup x) = true) : Vis sc x := by
  unfold Vis
  cases q : sc.names.lookup x with
  | none => rw [q] at h; cases h
  | some k =>
    rw [q] at h
    cases k <;> first | exact .inl rfl | exact .inr (.inl rfl) | exact .inr (.inr rfl) | cases h
theorem loc_of {sc : Scope} {x : Str} (h : (locO (sc.names.lookup x) || celO (sc.names.lookup x)) = true) : Loc sc x := by
  unfold L2.Loc
  cases q : sc.names.lookup x with
  | none => rw [q] at h; cases h
  | some k =>
    rw [q] at h
    cases k <;> first | exact .inl rfl | exact .inr rfl | cases h
section
variable {X : Cx} {fa : Nat → Addr} {e e2 tg : Expr} {pos p : Pos} {d d1 d2 : Den}
theorem SE.len (hg : Gl X "len") (hm : X.mg "len" = none) (h : SE X fa e d) (he : starEach (e :: []) X.env = (false, eval e X.env) :: starEach [] X.env) : SE X fa (.Call (.Name "len" p) [e] [] pos) (den1 gLen d) :=
  SE.bi1 call_len hg hm PySem.boot_len h unt_len (by decide) (by decide) he
theorem SE.sum (hc : X.calm = true) (hg : Gl X "sum") (hm : X.mg "sum" = none) (h : SE X fa e d) (he : starEach (e :: []) X.env = (false, eval e X.env) :: starEach [] X.env) : SE X fa (.Call (.Name "sum" p) [e] [] pos) (den1 gSum d) :=
  SE.bi1 (cr_sum hc) hg hm PyProof.Rows.boot_sum h unt_sum (by decide) (by decide) he
theorem SE.all (hc : X.calm = true) (hg : Gl X "all") (hm : X.mg "all" = none) (h : SE X fa e d) (he : starEach (e :: []) X.env = (false, eval e X.env) :: starEach [] X.env) : SE X fa (.Call (.Name "all" p) [e] [] pos) (den1 gAll d) :=
  SE.bi1 (cr_all hc) hg hm PyProof.Rows.boot_all h unt_all (by decide) (by decide) he
theorem SE.any (hc : X.calm = true) (hg : Gl X "any") (hm : X.mg "any" = none) (h : SE X fa e d) (he : starEach (e :: []) X.env = (false, eval e X.env) :: starEach [] X.env) : SE X fa (.Call (.Name "any" p) [e] [] pos) (den1 gAny d) :=
  SE.bi1 (cr_any hc) hg hm PyProof.Rows.boot_any h unt_any (by decide) (by decide) he
theorem SE.maxL (hc : X.calm = true) (hg : Gl X "max") (hm : X.mg "max" = none) (h : SE X fa e d) (he : starEach (e :: []) X.env = (false, eval e X.env) :: starEach [] X.env) : SE X fa (.Call (.Name "max" p) [e] [] pos) (den1 gMaxL d) :=
  SE.bi1 (cr_max hc) hg hm PyProof.Rows.boot_max h unt_maxL (by decide) (by decide) he
theorem SE.minL (hc : X.calm = true) (hg : Gl X "min") (hm : X.mg "min" = none) (h : SE X fa e d) (he : starEach (e :: []) X.env = (false, eval e X.env) :: starEach [] X.env) : SE X fa (.Call (.Name "min" p) [e] [] pos) (den1 gMinL d) :=
  SE.bi1 (cr_min hc) hg hm PyProof.Rows.boot_min h unt_minL (by decide) (by decide) he
theorem SE.abs (hg : Gl X "abs") (hm : X.mg "abs" = none) (h : SE X fa e d) (he : starEach (e :: []) X.env = (false, eval e X.env) :: starEach [] X.env) : SE X fa (.Call (.Name "abs" p) [e] [] pos) (den1 gAbs d) :=
  SE.bi1 call_abs hg hm PyProof.Rows.boot_abs h unt_abs (by decide) (by decide) he
theorem SE.int1 (hg : Gl X "int") (hm : X.mg "int" = none) (h : SE X fa e d) (he : starEach (e :: []) X.env = (false, eval e X.env) :: starEach [] X.env) : SE X fa (.Call (.Name "int" p) [e] [] pos) (den1 gInt d) :=
  SE.ty1 call_int1 hg hm PyProof.Rows.boot_int h unt_int (by decide) (by decide) he
theorem SE.list1 (hg : Gl X "list") (hm : X.mg "list" = none) (h : SE X fa e d) (he : starEach (e :: []) X.env = (false, eval e X.env) :: starEach [] X.env) : SE X fa (.Call (.Name "list" p) [e] [] pos) (den1 gList d) :=
  SE.ty1 call_list_of hg hm PyProof.Rows.boot_list h unt_list (by decide) (by decide) he
theorem SE.tuple1 (hg : Gl X "tuple") (hm : X.mg "tuple" = none) (h : SE X fa e d) (he : starEach (e :: []) X.env = (false, eval e X.env) :: starEach [] X.env) : SE X fa (.Call (.Name "tuple" p) [e] [] pos) (den1 gTuple d) :=
  SE.ty1 call_tuple_of hg hm PyProof.Rows.boot_tuple h unt_tuple (by decide) (by decide) he
/-- sorted: ints, pairs -/
def gSort (ρ : REnv) (l : L) : Option L := match gSortI ρ l with
  | some r => some r
  | none => gSortP ρ l
theorem unt_sort {K : PySem.W.Frag} : UnT K fa (fun x H Q => rSortedI K [x] H Q ∨ rSortedPT K [x] H Q) gSort := by
  intro C0 G0 H0 G H σ ρ v1 l1 l Q O e k
  unfold gSort at e
  split at e
  · rename_i r h
    cases e
    exact .inl (unt_sortI C0 G0 H0 G H σ ρ v1 l1 _ Q O h k)
  · exact .inr (unt_sortP C0 G0 H0 G H σ ρ v1 l1 l Q O e k)
theorem SE.sorted (hg : Gl X "sorted") (hm : X.mg "sorted" = none) (h : SE X fa e d) (he : starEach (e :: []) X.env = (false, eval e X.env) :: starEach [] X.env) : SE X fa (.Call (.Name "sorted" p) [e] [] pos) (den1 gSort d) :=
  SE.bi1 (r := fun xs H Q => rSortedI X.K xs H Q ∨ rSortedPT X.K xs H Q) (cr_sortedI.or cr_sortedPT) hg hm PyProof.Rows.boot_sorted h unt_sort (by decide) (by decide) he
theorem SE.max2 (hc : X.calm = true) (hg : Gl X "max") (hm : X.mg "max" = none) (h : SE X fa e d1) (h2 : SE X fa e2 d2) (he : starEach (e :: [e2]) X.env = (false, eval e X.env) :: starEach [e2] X.env) (he2 : starEach (e2 :: []) X.env = (false, eval e2 X.env) :: starEach [] X.env) (hpl : (backTo pos (starEach [e2] X.env)).any (·.1) = false) : SE X fa (.Call (.Name "max" p) [e, e2] [] pos) (den2 gMax2 d1 d2) :=
  SE.bi2 (call_max2 hc) hg hm PyProof.Rows.boot_max h h2 opt_max2 (by decide) (by decide) he he2 hpl
theorem SE.min2 (hc : X.calm = true) (hg : Gl X "min") (hm : X.mg "min" = none) (h : SE X fa e d1) (h2 : SE X fa e2 d2) (he : starEach (e :: [e2]) X.env = (false, eval e X.env) :: starEach [e2] X.env) (he2 : starEach (e2 :: []) X.env = (false, eval e2 X.env) :: starEach [] X.env) (hpl : (backTo pos (starEach [e2] X.env)).any (·.1) = false) : SE X fa (.Call (.Name "min" p) [e, e2] [] pos) (den2 gMin2 d1 d2) :=
  SE.bi2 (call_min2 hc) hg hm PyProof.Rows.boot_min h h2 opt_min2 (by decide) (by decide) he he2 hpl
end
/-! ### a def that nobody calls with what it does not take -/
section
variable {P : Program} {w : World} {K : PySem.W.Frag} {mg : Str → Option Value} {base : Heap} {fa : Nat → Addr} {k : Nat} {x qual : Str} {st : Stmt} {f : Addr} {fd : FuncData} {N ps : List Str}
theorem fn_none (F : Fun K x qual st f fd) (S : FnScope N ps (defScope st)) (hmg : mg x = some (.ref f)) (hb : Binds K fd ps []) : Fn P w K mg base fa (k + 1) x ps.length (pureF fun _ => none) := by
  refine ⟨f, fd, ps, F.ok S (fun vs H Q E q => q.1) (fun cdv A outer s H vs Q E hr q => ?_), hmg, F.kp, hb⟩
  obtain ⟨_, G, ls, r, ls', _, e, _⟩ := q
  unfold pureF at e
  cases q2 : allT ls <;> simp [q2] at e
end
end LW
namespace LW
open PySem PySem.Spec PyProof.Rows L2

theorem room1 {k : Nat} {A : Around} (r : Room k A) : A.units + 1 < cLine := by have := r.un; omega
theorem room64 {k : Nat} {A : Around} (r : Room k A) : A.units + 64 < cLine := by have := r.un; omega
theorem room65 {k : Nat} {A : Around} (r : Room k A) : A.units + 65 < cLine := by have := r.un; omega
section
variable {X : Cx} {fa : Nat → Addr} {e e2 tg : Expr} {pos p : Pos} {d d1 d2 de : Den}
theorem SE.v (i : Nat) {x : Str} (hN : X.N[i]? = some x) (hv : visO (X.env.scope.names.lookup x) = true) (hd : (x == ("__debug__" : Str)) = false) (hcd : (x == ("__classdict__" : Str)) = false) : SE X fa (.Name x pos) (gVar i) := SE.var hN (vis_of hv) hd hcd
theorem lf_of {x : Str} (h : (X.fn x || locO (X.env.scope.names.lookup x)) = true) : X.fn x = true ∨ X.env.scope.names.lookup x = some .local := by
  cases q : X.fn x with
  | true => exact .inl rfl
  | false =>
    rw [q] at h
    right
    cases q2 : X.env.scope.names.lookup x with
    | none => rw [q2] at h; cases h
    | some k =>
      rw [q2] at h
      cases k <;> first | rfl | cases h
theorem SG.n {i : Nat} {x : Str} (hN : X.N.Nodup) (hi : X.N[i]? = some x) (hx : (locO (X.env.scope.names.lookup x) || celO (X.env.scope.names.lookup x)) = true) (hf : (X.fn x || locO (X.env.scope.names.lookup x)) = true) : SG X fa (.Name x pos) [i] (gNameT i) := SG.name hN hi (loc_of hx) (lf_of hf)
theorem SS.st {i : Nat} {x : Str} {pos' : Pos} (hN : X.N.Nodup) (hi : X.N[i]? = some x) (hx : (locO (X.env.scope.names.lookup x) || celO (X.env.scope.names.lookup x)) = true) (h : SE X fa e de) (hs : swapsWith e (some (.Name x pos')) pos.line X.env = pure false) (hf : (X.fn x || locO (X.env.scope.names.lookup x)) = true) :
    SS X fa (.Assign [.Name x pos'] e pos) [i] (dSet i de) := SS.set hN hi (loc_of hx) h hs (lf_of hf)
/-- a value that is a bool, as a test -/
theorem SE.blT (h : SE X fa e d) (he : ∀ whole, isTrue e X.env whole = (do let v ← whole; standAt e.pos; holding [v] (truthy v))) : ST X fa e (dTru d) := SE.truth h he
theorem ST.cmpB {op : CmpOp} {g : REnv → L → L → Option Bool} {a b : Expr} (h1 : SE X fa a d1) (h2 : SE X fa b d2) (hc : CmpR X fa op g) (hm : behindInMarks op b = false) : ST X fa (.Compare a [op] [b] pos) (dBl (dBor (den2 (gB g) d1 d2))) := by
  obtain ⟨r, p, q⟩ := hc.ex
  obtain ⟨ta, pa, ra⟩ := h1
  obtain ⟨tb, pb, rb⟩ := h2
  exact ⟨_, pt_cmpR p pa pb hm, test_read (bor_read (two_read ra rb q.opt))⟩
theorem SE.lc {elt tg iter : Expr} {ifs : List Expr} {scope : Scope} {own : List (Str × Nat)} {vs : List Nat} {pos : Pos} {src : DenI} {as : List Nat} {g : DenG} {dt : DenT} {de : Den} (hvs : own.map (·.2) = vs) (hc : X.calm = true) (hN : X.N.Nodup) (hi : SI X fa tg iter src)
    (ok : BlkOk X.N X.env.scope scope own) (has : ∀ i ∈ as, i ∈ vs)
    (hg : ∀ (s : Shared) (H : Hp) (C : Addr) (cl : List (Str × Addr)) (fp : List Addr), SG (X.blk s H scope (compEnvC scope cl C X.env) fp) fa tg as g)
    (ht : ∀ (s : Shared) (H : Hp) (C : Addr) (cl : List (Str × Addr)) (fp : List Addr), STs (X.blk s H scope (compEnvC scope cl C X.env) fp) fa ifs dt)
    (he : ∀ (s : Shared) (H : Hp) (C : Addr) (cl : List (Str × Addr)) (fp : List Addr), SE (X.blk s H scope (compEnvC scope cl C X.env) fp) fa elt de) (hs : ∀ x, foldedSetIterable iter X.env x = pure x) :
    SE X fa (.ListComp elt [⟨tg, iter, ifs, 0⟩] scope pos) (compD src vs g dt de) := by
  subst hvs
  exact SE.of (SE.comp hc hN hi ok has hg ht he hs).1
theorem SS.lc {i : Nat} {y : Str} {py : Pos} {elt tg iter : Expr} {ifs : List Expr} {scope : Scope} {own : List (Str × Nat)} {vs : List Nat} {pos spos : Pos} {src : DenI} {cs : List Nat} {g : DenG} {dt : DenT} {dd : Den} (hvs : own.map (·.2) = vs) (hc : X.calm = true) (hN : X.N.Nodup) (hy : X.N[i]? = some y) (hyl : X.env.scope.names.lookup y = some .local)
    (hsw : swapsWith (.ListComp elt [⟨tg, iter, ifs, 0⟩] scope pos) (some (.Name y py)) spos.line X.env = pure true) (hi : SI X fa tg iter src)
    (ok : BlkOk X.N X.env.scope scope own) (has : ∀ i ∈ cs, i ∈ vs)
    (hg : ∀ (s : Shared) (H : Hp) (C : Addr) (cl : List (Str × Addr)) (fp : List Addr), SG (X.blk s H scope (compEnvC scope cl C X.env) fp) fa tg cs g)
    (ht : ∀ (s : Shared) (H : Hp) (C : Addr) (cl : List (Str × Addr)) (fp : List Addr), STs (X.blk s H scope (compEnvC scope cl C X.env) fp) fa ifs dt)
    (he : ∀ (s : Shared) (H : Hp) (C : Addr) (cl : List (Str × Addr)) (fp : List Addr), SE (X.blk s H scope (compEnvC scope cl C X.env) fp) fa elt dd) (hs : ∀ x, foldedSetIterable iter X.env x = pure x) :
    SS X fa (.Assign [.Name y py] (.ListComp elt [⟨tg, iter, ifs, 0⟩] scope pos) spos) [i] (dSet i (compD src vs g dt dd)) := by
  subst hvs
  exact SS.setC hc hN hy hyl hsw hi ok has hg ht he hs
end
/-- the law's own def: the function object stays in sight -/
structure FnL (P : Program) (w : World) (K : PySem.W.Frag) (mg : Str → Option Value) (base : Heap) (fa : Nat → Addr) (k : Nat) (f : Addr) (fd : FuncData) (ps : List Str) (m : DenF) : Prop where
  ok : FnOk P w K mg base CX0 k f fd ps (spM K fa ps.length m)
theorem fn_pureL {P : Program} {w : World} {K : PySem.W.Frag} {mg : Str → Option Value} {base : Heap} {fa : Nat → Addr} {k : Nat} {x qual : Str} {st : Stmt} {f : Addr} {fd : FuncData} {N ps : List Str} {as : List Nat} {d : DenS} (F : Fun K x qual st f fd) (S : FnScope N ps (defScope st))
    (h : ∀ (cdv : Value) (A : Around) (outer : List Env) (s : Shared) (H : Hp) (E : XK), Room k (A.deeper (envOfC qual (defScope st) s.heap.objs.size f cdv)) →
      SSs (cxOf CX0 P w K mg base N qual (defScope st) f cdv A outer s H E).nox fa (defBody st) as d) : FnL P w K mg base fa (k + 1) f fd ps (pureF (bodyP ps.length N.length d)) :=
  ⟨fn_pureK F S h⟩
end LW
namespace LW
open PySem PySem.Spec PyProof.Rows L2

/-! ### meanings, evaluated -/
theorem dSeq_nx {d d' : DenS} {ρ ρ' : REnv} (h : d ρ = some (.nx, ρ')) : dSeq d d' ρ = d' ρ' := by simp [dSeq, h]
theorem dSeq_ret {d d' : DenS} {ρ ρ' : REnv} {l : L} (h : d ρ = some (.ret l, ρ')) : dSeq d d' ρ = some (.ret l, ρ') := by simp [dSeq, h]
theorem dRet_eq {d : Den} {ρ ρ' : REnv} {l : L} (h : d ρ = some (l, ρ')) : dRet d ρ = some (.ret l, ρ') := by simp [dRet, h]
theorem dSet_t {i : Nat} {d : Den} {ρ ρ' : REnv} {x : T} (h : d ρ = some (.t x, ρ')) (hi : i < ρ'.length) : dSet i d ρ = some (.nx, ρ'.set i (.t x)) := by simp [dSet, h, stoE, hi]
theorem dSet_o {i : Nat} {d : Den} {ρ ρ' : REnv} {c : OC} (h : d ρ = some (.own c, ρ')) (hi : i < ρ'.length) : dSet i d ρ = some (.nx, ρ'.set i (.own c)) := by simp [dSet, h, stoE, hi]
theorem dIfS_t {c : DenT} {d d' : DenS} {ρ ρ' : REnv} (h : c ρ = some (true, ρ')) : dIfS c d d' ρ = d ρ' := by simp [dIfS, h]
theorem dIfS_f {c : DenT} {d d' : DenS} {ρ ρ' : REnv} (h : c ρ = some (false, ρ')) : dIfS c d d' ρ = d' ρ' := by simp [dIfS, h]
theorem compL_fm {α : Type} {vs : List Nat} {g : DenG} {dt : DenT} {de : Den} {ρ : REnv} (t : α → T) (b : α → Bool) (y : α → T) : ∀ as : List α,
    (∀ a ∈ as, ∃ ρa ρb, g (t a) ρ = some ρa ∧ dt ρa = some (b a, ρb) ∧ (b a = true → ∃ l ρc, de ρb = some (l, ρc) ∧ l.tree = some (y a) ∧ wipeE ρc vs = ρ) ∧ (b a = false → wipeE ρb vs = ρ)) →
    compL vs g dt de (as.map t) ρ = some ((as.filter b).map y, ρ)
  | [], _ => rfl
  | a :: as, h => by
    obtain ⟨ρa, ρb, h1, h2, h3, h4⟩ := h a List.mem_cons_self
    have ih := compL_fm t b y as fun x hx => h x (List.mem_cons_of_mem _ hx)
    rw [List.map_cons]
    cases q : b a with
    | true =>
      obtain ⟨l, ρc, h5, h6, h7⟩ := h3 q
      rw [q] at h2
      simp [compL, h1, h2, h5, h6, h7, ih, q]
    | false =>
      have h7 := h4 q
      rw [q] at h2
      simp [compL, h1, h2, h7, ih, q]
theorem compL_m {α : Type} {vs : List Nat} {g : DenG} {de : Den} {ρ : REnv} (t : α → T) (y : α → T) (as : List α)
    (h : ∀ a ∈ as, ∃ ρa, g (t a) ρ = some ρa ∧ ∃ l ρc, de ρa = some (l, ρc) ∧ l.tree = some (y a) ∧ wipeE ρc vs = ρ) :
    compL vs g dYes de (as.map t) ρ = some (as.map y, ρ) := by
  have := compL_fm (vs := vs) (g := g) (dt := dYes) (de := de) (ρ := ρ) t (fun _ => true) y as fun a ha => by
    obtain ⟨ρa, h1, h2⟩ := h a ha
    exact ⟨ρa, ρa, h1, rfl, fun _ => h2, fun z => by cases z⟩
  rwa [List.filter_eq_self.mpr fun _ _ => rfl] at this
theorem compD_eq {src : DenI} {vs : List Nat} {g : DenG} {dt : DenT} {de : Den} {ρ ρ1 ρ2 : REnv} {xs ys : List T} {ho : Option Nat} (hs : src ρ = some (xs, ho, ρ1)) (hl : compL vs g dt de xs (wipeE (hideO ho ρ1) vs) = some (ys, ρ2)) (hz : ys.length ≤ line) :
    compD src vs g dt de ρ = some (.own (.lst ys), restE ρ1 ρ2 (ho.toList ++ vs)) := by simp [compD, hs, hl, hz]
theorem forL_inv {α β : Type} {g : DenG} {db : DenS} {t : α → T} (Inv : β → REnv → Prop) (f : β → α → β) : ∀ (as : List α), (∀ a ∈ as, ∀ b ρ, Inv b ρ → ∃ ρa ρ', g (t a) ρ = some ρa ∧ db ρa = some (.nx, ρ') ∧ Inv (f b a) ρ') →
    ∀ b ρ, Inv b ρ → ∃ ρ', forL g db (as.map t) ρ = some (.nx, ρ') ∧ Inv (as.foldl f b) ρ'
  | [], _, b, ρ, hI => ⟨ρ, rfl, hI⟩
  | a :: as, h, b, ρ, hI => by
    obtain ⟨ρa, ρ', h1, h2, h3⟩ := h a List.mem_cons_self b ρ hI
    obtain ⟨ρ2, h4, h5⟩ := forL_inv Inv f as (fun x hx => h x (List.mem_cons_of_mem _ hx)) (f b a) ρ' h3
    exact ⟨ρ2, by simp [forL, h1, h2, h4], h5⟩
/-- a loop that returns at the first hit -/
theorem forL_find {α : Type} {g : DenG} {db : DenS} {t : α → T} (Inv : REnv → Prop) (p : α → Bool) (r : α → L) : ∀ (as : List α), (∀ a ∈ as, ∀ ρ, Inv ρ → ∃ ρa ρ', g (t a) ρ = some ρa ∧ ((p a = true ∧ db ρa = some (.ret (r a), ρ')) ∨ (p a = false ∧ db ρa = some (.nx, ρ'))) ∧ Inv ρ') →
    ∀ ρ, Inv ρ → ∃ ρ', Inv ρ' ∧ forL g db (as.map t) ρ = some ((match as.find? p with
      | some a => .ret (r a)
      | none => .nx), ρ')
  | [], _, ρ, hI => ⟨ρ, hI, rfl⟩
  | a :: as, h, ρ, hI => by
    obtain ⟨ρa, ρ', h1, h2, h3⟩ := h a List.mem_cons_self ρ hI
    rcases h2 with ⟨hp, h2⟩ | ⟨hp, h2⟩
    · exact ⟨ρ', h3, by simp [forL, h1, h2, List.find?_cons, hp]⟩
    · obtain ⟨ρ2, h5, h4⟩ := forL_find Inv p r as (fun x hx => h x (List.mem_cons_of_mem _ hx)) ρ' h3
      exact ⟨ρ2, h5, by simp [forL, h1, h2, h4, List.find?_cons, hp]⟩
theorem whileL_steps {c : DenT} {db : DenS} {Pz : REnv → Prop} (Inv : Nat → REnv → Prop) (n : Nat) (h : ∀ i, i < n → ∀ ρ, Inv i ρ → ∃ ρa ρ', c ρ = some (true, ρa) ∧ db ρa = some (.nx, ρ') ∧ Inv (i + 1) ρ')
    (he : ∀ ρ, Inv n ρ → ∃ ρ', c ρ = some (false, ρ') ∧ Pz ρ') : ∀ (m i fuel : Nat), i + m = n → m < fuel → ∀ ρ, Inv i ρ → ∃ ρ', whileL c db fuel ρ = some (.nx, ρ') ∧ Pz ρ'
  | 0, i, fuel, e, hf, ρ, hI => by
    have : i = n := by omega
    subst this
    obtain ⟨ρ', h1, h2⟩ := he ρ hI
    cases fuel with
    | zero => omega
    | succ fuel => exact ⟨ρ', by simp [whileL, h1], h2⟩
  | m + 1, i, fuel, e, hf, ρ, hI => by
    obtain ⟨ρa, ρ', h1, h2, h3⟩ := h i (by omega) ρ hI
    cases fuel with
    | zero => omega
    | succ fuel =>
      obtain ⟨ρ2, h4, h5⟩ := whileL_steps Inv n h he m (i + 1) fuel (by omega) (by omega) ρ' h3
      exact ⟨ρ2, by simp [whileL, h1, h2, h4], h5⟩
theorem asInts_f {α : Type} (f : α → Int) : ∀ as : List α, asInts (as.map fun a => .int (f a)) = some (as.map f)
  | [] => rfl
  | a :: as => by simp [asInts, asInts_f f as]
theorem mulOk_small {i j : Int} (h : -(18446744073709551616) < i) (h2 : i < 18446744073709551616) : mulOk i j = true := by simp [mulOk, h, h2]
theorem mulOk_smallr {i j : Int} (h : -(18446744073709551616) < j) (h2 : j < 18446744073709551616) : mulOk i j = true := by simp [mulOk, h, h2]
theorem atI_pos {α : Type} {xs : List α} {i : Int} {x : α} (h0 : 0 ≤ i) (h : xs[i.toNat]? = some x) : atI xs i = some x := by
  obtain ⟨n, rfl⟩ := Int.eq_ofNat_of_zero_le h0
  exact atI_nat (by simpa using h)
theorem atI_neg {α : Type} {xs : List α} {i : Int} {x : α} (h0 : i < 0) (h1 : 0 ≤ xs.length + i) (h : xs[(xs.length + i).toNat]? = some x) : atI xs i = some x := by
  have e : ixN xs.length i = some (xs.length + i).toNat := by
    unfold ixN
    rw [if_neg (by omega), if_pos (by omega), Int.add_comm]
  rw [atI, e, Option.bind_some, h]
theorem atI_ints {ns : List Int} {i : Int} (h0 : 0 ≤ i) (h1 : i < ns.length) : atI (ns.map T.int) i = some (.int (ns.getD i.toNat 0)) := by
  refine atI_pos h0 ?_
  have : i.toNat < ns.length := by omega
  simp [this]
theorem atI_intsN {ns : List Int} {i : Int} (h0 : i < 0) (h1 : 0 ≤ ns.length + i) : atI (ns.map T.int) i = some (.int (ns.getD (ns.length + i).toNat 0)) := by
  have : (ns.length + i).toNat < ns.length := by omega
  refine atI_neg h0 (by simpa using h1) ?_
  simp [this]
end LW
namespace LW
open PySem
open L2 (atI ixN)

/-! ### lists of ints: equality, shape, slices -/
theorem eqvAll_ii : ∀ a b : List Int, PyData.eqvAll (T.pys (a.map T.int)) (T.pys (b.map T.int)) = decide (a = b)
  | [], [] => rfl
  | [], b :: bs => rfl
  | a :: as, [] => rfl
  | a :: as, b :: bs => by
    simp only [List.map_cons, T.pys, T.py, PyData.eqvAll, PyData.eqv, eqvAll_ii as bs, List.cons.injEq]
    by_cases h : a = b
    · simp [h]
    · simp [h]
theorem eqv_lst (a b : List Int) : T.eqv (.lst (a.map T.int)) (.lst (b.map T.int)) = decide (a = b) := by simp only [T.eqv, T.py, PyData.eqv, eqvAll_ii]
theorem eqv_tup (a b : List Int) : T.eqv (.tup (a.map T.int)) (.tup (b.map T.int)) = decide (a = b) := by simp only [T.eqv, T.py, PyData.eqv, eqvAll_ii]
theorem eqv_int (a b : Int) : T.eqv (.int a) (.int b) = decide (a = b) := by
  simp only [T.eqv, T.py, PyData.eqv]
  by_cases h : a = b
  · simp [h]
  · simp [h]
theorem clns_ii : ∀ a : List Int, T.clns (a.map T.int) = true
  | [] => rfl
  | a :: as => by simp [T.clns, T.cln, clns_ii as]
theorem deps_ii : ∀ a : List Int, T.deps (a.map T.int) = 0
  | [] => rfl
  | a :: as => by simp [T.deps, T.dep, deps_ii as]
theorem shp_lst (a : List Int) : (T.lst (a.map T.int)).shp = true := by simp [T.shp, T.cln, T.dep, clns_ii, deps_ii]
theorem shp_tup (a : List Int) : (T.tup (a.map T.int)).shp = true := by simp [T.shp, T.cln, T.dep, clns_ii, deps_ii]
theorem shp_int (a : Int) : (T.int a).shp = true := rfl
theorem eqOk_lst (a b : List Int) : eqOk (.lst (a.map T.int)) (.lst (b.map T.int)) = true := by simp only [eqOk, shp_lst, Bool.and_self, Bool.or_true]
theorem eqOk_tup (a b : List Int) : eqOk (.tup (a.map T.int)) (.tup (b.map T.int)) = true := by simp only [eqOk, shp_tup, Bool.and_self, Bool.or_true]
theorem eqOk_int (a b : Int) : eqOk (.int a) (.int b) = true := rfl
theorem noLs_ii : ∀ a : List Int, T.noLs (a.map T.int) = true
  | [] => rfl
  | a :: as => by simp [T.noLs, T.noL, noLs_ii as]
theorem noL_own (a : List Int) : (L.own (.lst (a.map T.int))).noL = true := noLs_ii a
theorem noL_tup (a : List Int) : (L.t (.tup (a.map T.int))).noL = true := noLs_ii a
theorem noL_int (a : Int) : (L.t (.int a)).noL = true := rfl
theorem noL_bl (a : Bool) : (L.t (.bl a)).noL = true := rfl
theorem noL_non : (L.t .non).noL = true := rfl
theorem cut_hi (xs : List T) (m : Nat) : cutT xs none (some (m : Int)) = xs.take m := by
  simp only [cutT, HT.sIx_none, HT.sIx_nat, List.drop_zero, Nat.sub_zero]
  by_cases h : m ≤ xs.length
  · rw [Nat.min_eq_left h]
  · rw [Nat.min_eq_right (by omega), List.take_of_length_le (Nat.le_refl _), List.take_of_length_le (by omega)]
theorem cut_lo (xs : List T) (m : Nat) : cutT xs (some (m : Int)) none = xs.drop m := by
  simp only [cutT, HT.sIx_none, HT.sIx_nat]
  by_cases h : m ≤ xs.length
  · rw [Nat.min_eq_left h, List.take_of_length_le (by simp)]
  · rw [Nat.min_eq_right (by omega), List.drop_of_length_le (Nat.le_refl _), List.drop_of_length_le (by omega)]; simp
theorem cut_lh (xs : List T) (m n : Nat) (h : m ≤ xs.length) (h2 : n ≤ xs.length) : cutT xs (some (m : Int)) (some (n : Int)) = (xs.drop m).take (n - m) := by
  simp only [cutT, HT.sIx_nat, Nat.min_eq_left h, Nat.min_eq_left h2]
theorem gLt_e (ρ : REnv) (i j : Int) : gLt ρ (.t (.int i)) (.t (.int j)) = some (decide (i < j)) := rfl
theorem gLe_e (ρ : REnv) (i j : Int) : gLe ρ (.t (.int i)) (.t (.int j)) = some (decide (i ≤ j)) := rfl
theorem gGt_e (ρ : REnv) (i j : Int) : gGt ρ (.t (.int i)) (.t (.int j)) = some (decide (j < i)) := rfl
theorem gGe_e (ρ : REnv) (i j : Int) : gGe ρ (.t (.int i)) (.t (.int j)) = some (decide (j ≤ i)) := rfl
theorem dBor_eq {d : Den} {ρ ρ' : REnv} {l : L} (h : d (frzE ρ) = some (l, ρ')) (n : l.noL = true) : dBor d ρ = some (l, ρ) := by simp [dBor, h, n]
theorem inBig_nat {n : Nat} (h : n < 10000) : inBig (n : Int) = true := by
  unfold inBig big
  simp only [Bool.and_eq_true, decide_eq_true_eq]
  omega
theorem rangeU0 (n : Nat) : rangeU 0 n = (List.range n).map fun i => T.int (i : Nat) := by
  unfold rangeU
  refine List.map_congr_left fun i _ => ?_
  rw [Int.zero_add]
theorem iRange1_j {d : DenA} {ρ ρ' : REnv} {j : Int} (h : d ρ = some ([.int j], ρ')) (hb : inBig j = true) : iRange1 d ρ = some (rangeU 0 j.toNat, none, ρ') := by simp only [iRange1, h, hb, Option.bind_some, if_true]
theorem iRange1_eq {d : Den} {ρ ρ' : REnv} {n : Nat} (h : d ρ = some (.t (.int n), ρ')) (hn : n < 10000) : iRange1 (dCons d dNil) ρ = some ((List.range n).map fun i => T.int (i : Nat), none, ρ') := by
  have e2 : dCons d dNil ρ = some ([.int n], ρ') := by simp only [dCons, dNil, h, Option.bind_some, Option.map_some, L.tree]
  have e3 := iRange1_j e2 (inBig_nat hn)
  rw [Int.toNat_natCast, rangeU0] at e3
  exact e3
theorem foldl_app {α β : Type} (f : α → β) : ∀ (as : List α) (b : List β), as.foldl (fun b a => b ++ [f a]) b = b ++ as.map f
  | [], b => by simp
  | a :: as, b => by simp [foldl_app f as]
/-- a loop that stops by break behind K turns -/
theorem forL_brk {α : Type} {g : DenG} {db : DenS} {t : α → T} (Inv : Nat → REnv → Prop) (K : Nat) (h : ∀ (j : Nat) (a : α) (ρ : REnv), j < K → Inv j ρ → ∃ ρa ρ', g (t a) ρ = some ρa ∧ db ρa = some (if j + 1 = K then .brk else .nx, ρ') ∧ Inv (j + 1) ρ') :
    ∀ (as : List α) (i : Nat), i < K → K ≤ i + as.length → ∀ ρ, Inv i ρ → ∃ ρ', forL g db (as.map t) ρ = some (.nx, ρ') ∧ Inv K ρ'
  | [], i, h1, h2, ρ, hI => by simp at h2; omega
  | a :: as, i, h1, h2, ρ, hI => by
    obtain ⟨ρa, ρ', e1, e2, e3⟩ := h i a ρ h1 hI
    by_cases hK : i + 1 = K
    · rw [if_pos hK] at e2
      subst hK
      exact ⟨ρ', by simp [forL, e1, e2], e3⟩
    · rw [if_neg hK] at e2
      obtain ⟨ρ2, h4, h5⟩ := forL_brk Inv K h as (i + 1) (by omega) (by simp at h2; omega) ρ' e3
      exact ⟨ρ2, by simp [forL, e1, e2, h4], h5⟩
theorem bodyP_own {n m : Nat} {d : DenS} {ts : List T} {ρ' : REnv} {c : OC} (hl : ts.length = n) (h : d (ts.map L.t ++ List.replicate (m - n) L.un) = some (.ret (.own c), ρ')) : bodyP n m d ts = some (.own c) := by simp only [bodyP, hl, h, if_true, Option.bind_some, finP]
theorem bodyP_t {n m : Nat} {d : DenS} {ts : List T} {ρ' : REnv} {x : T} (hl : ts.length = n) (h : d (ts.map L.t ++ List.replicate (m - n) L.un) = some (.ret (.t x), ρ')) : bodyP n m d ts = some (.t x) := by simp only [bodyP, hl, h, if_true, Option.bind_some, finP]
theorem bodyP_ref {n m i : Nat} {d : DenS} {ts : List T} {ρ' : REnv} {c : OC} (hl : ts.length = n) (h : d (ts.map L.t ++ List.replicate (m - n) L.un) = some (.ret (.ref i), ρ')) (h2 : ρ'[i]? = some (.own c)) : bodyP n m d ts = some (.own c) := by simp only [bodyP, hl, h, h2, if_true, Option.bind_some, finP]
theorem dFor_eq {as : List Nat} {src : DenI} {g : DenG} {db : DenS} {ρ ρ1 ρ2 : REnv} {xs : List T} {fl : Fl} (hs : src ρ = some (xs, none, ρ1)) (hl : forL g db xs ρ1 = some (fl, ρ2)) : dFor as src g db ρ = some (fl, ρ2) := by
  simp [dFor, hs, hideO, hl, restE]
theorem getD_app1 {a b : List Int} {i : Nat} (h : i < a.length) : (a ++ b).getD i 0 = a.getD i 0 := by simp [List.getD_eq_getElem?_getD, List.getElem?_append_left h]
theorem getD_app2 {a b : List Int} {i : Nat} (h : a.length ≤ i) : (a ++ b).getD i 0 = b.getD (i - a.length) 0 := by simp [List.getD_eq_getElem?_getD, List.getElem?_append_right h]
theorem forL_ix {α : Type} {g : DenG} {db : DenS} {t : α → T} (Inv : Nat → REnv → Prop) : ∀ (as : List α) (k : Nat), (∀ i a ρ, as[i]? = some a → Inv (k + i) ρ → ∃ ρa ρ', g (t a) ρ = some ρa ∧ db ρa = some (.nx, ρ') ∧ Inv (k + i + 1) ρ') →
    ∀ ρ, Inv k ρ → ∃ ρ', forL g db (as.map t) ρ = some (.nx, ρ') ∧ Inv (k + as.length) ρ'
  | [], k, _, ρ, hI => ⟨ρ, rfl, hI⟩
  | a :: as, k, h, ρ, hI => by
    obtain ⟨ρa, ρ', h1, h2, h3⟩ := h 0 a ρ rfl hI
    obtain ⟨ρ2, h4, h5⟩ := forL_ix Inv as (k + 1) (fun i x ρ hx hI => by
      have := h (i + 1) x ρ (by simpa using hx) (by rw [show k + (i + 1) = k + 1 + i by omega]; exact hI)
      rw [show k + (i + 1) + 1 = k + 1 + i + 1 by omega] at this
      exact this) ρ' h3
    exact ⟨ρ2, by simp [forL, h1, h2, h4], by rw [show k + (a :: as).length = k + 1 + as.length by simp; omega]; exact h5⟩
/-- over range(n) -/
theorem forL_range {g : DenG} {db : DenS} (Inv : Nat → REnv → Prop) (n : Nat) (h : ∀ i ρ, i < n → Inv i ρ → ∃ ρa ρ', g (T.int (i : Nat)) ρ = some ρa ∧ db ρa = some (.nx, ρ') ∧ Inv (i + 1) ρ') (ρ : REnv) (h0 : Inv 0 ρ) :
    ∃ ρ', forL g db ((List.range n).map fun i => T.int (i : Nat)) ρ = some (.nx, ρ') ∧ Inv n ρ' := by
  have := forL_ix (g := g) (db := db) (t := fun i : Nat => T.int (i : Nat)) Inv (List.range n) 0 (fun i a ρ ha hI => by
    have hi : i < n := by
      have := (List.getElem?_eq_some_iff.mp ha).1
      simpa using this
    have : a = i := by
      rw [List.getElem?_range hi] at ha
      exact (Option.some.inj ha).symm
    subst this
    rw [Nat.zero_add] at hI ⊢
    exact h a ρ hi hI) ρ h0
  simpa using this
theorem app_own {xs : List T} {x : T} (h : xs.length < line) : fAppend xs [x] = some (.non, xs ++ [x]) := by simp [fAppend, h]
theorem gDiv_e (ρ : REnv) {i j : Int} (h : 0 < j) (h2 : j < 1073741824) : gDiv ρ (.t (.int i)) (.t (.int j)) = some (.t (.int (i / j))) := by simp only [gDiv, h, h2, decide_true, Bool.and_self, if_true]
theorem gMul_e (ρ : REnv) {i j : Int} (h : mulOk i j = true) : gMul ρ (.t (.int i)) (.t (.int j)) = some (.t (.int (i * j))) := by simp only [gMul, h, if_true]
theorem den1_eq {g : REnv → L → Option L} {d : Den} {ρ ρ1 : REnv} {l1 l : L} (h1 : d ρ = some (l1, ρ1)) (hg : g ρ1 l1 = some l) : den1 g d ρ = some (l, ρ1) := by simp only [den1, h1, hg, Option.bind_some, Option.map_some]
theorem den2_eq {g : REnv → L → L → Option L} {d1 d2 : Den} {ρ ρ1 ρ2 : REnv} {l1 l2 l : L} (h1 : d1 ρ = some (l1, ρ1)) (h2 : d2 ρ1 = some (l2, ρ2)) (hg : g ρ2 l1 l2 = some l) : den2 g d1 d2 ρ = some (l, ρ2) := by simp only [den2, h1, h2, hg, Option.bind_some, Option.map_some]
theorem gMod_e (ρ : REnv) {i j : Int} (h : 0 < j) : gMod ρ (.t (.int i)) (.t (.int j)) = some (.t (.int (i % j))) := by simp only [gMod, h, if_true]
theorem gIx_l (ρ : REnv) {xs : List T} {i : Int} {x : T} (e : atI xs i = some x) : gIx ρ (.t (.lst xs)) (.t (.int i)) = some (.t x) := by simp only [gIx, L.lview, e, Option.bind_some, Option.map_some]
theorem gIx_o (ρ : REnv) {xs : List T} {i : Int} {x : T} {k : Nat} (h : ρ[k]? = some (.own (.lst xs))) (e : atI xs i = some x) : gIx ρ (.ref k) (.t (.int i)) = some (.t x) := by simp only [gIx, L.lview, h, e, Option.bind_some, Option.map_some]
theorem dCallP_eq {n : Nat} {f : List T → Option L} {da : DenA} {ρ ρ1 : REnv} {ts : List T} {r : L} (ha : da ρ = some (ts, ρ1)) (hn : ts.length = n) (hf : f ts = some r) (hr : nor r = some r) : dCallP n f da ρ = some (r, ρ1) := by simp only [dCallP, ha, hn, hf, hr, if_true, Option.bind_some, Option.map_some]
theorem dCons_eq {d : Den} {da : DenA} {ρ ρ1 ρ2 : REnv} {l : L} {x : T} {ts : List T} (h : d ρ = some (l, ρ1)) (e : l.tree = some x) (ha : da ρ1 = some (ts, ρ2)) : dCons d da ρ = some (x :: ts, ρ2) := by simp only [dCons, h, e, ha, Option.bind_some, Option.map_some]
end LW
namespace LW
open PySem PySem.Spec PyProof.Rows L2

/-! ### x = y, where y holds an object of its own and is not asked again before it is stored -/
def dMove (i j : Nat) : DenS := fun ρ => match ρ[j]? with
  | some (.own c) => if i < ρ.length then some (.nx, (ρ.set j .un).set i (.own c)) else none
  | some (.t x) => if i < ρ.length then some (.nx, ρ.set i (.t x)) else none
  | _ => none
section
variable {X : Cx} {fa : Nat → Addr} {e : Expr} {pos pos' : Pos}
theorem SS.move {i j : Nat} {x : Str} (hN : X.N.Nodup) (hi : X.N[i]? = some x) (hx : (locO (X.env.scope.names.lookup x) || celO (X.env.scope.names.lookup x)) = true) (h : SE X fa e (gVar j)) (hs : swapsWith e (some (.Name x pos')) pos.line X.env = pure false) (hf : (X.fn x || locO (X.env.scope.names.lookup x)) = true) :
    SS X fa (.Assign [.Name x pos'] e pos) [i] (dMove i j) := by
  obtain ⟨t, p, r⟩ := h
  refine ⟨_, ps_set hN hi (loc_of hx) p hs (lf_of hf), fun σ G H ρ fl ρ' D E hd k => ?_⟩
  unfold dMove at hd
  split at hd
  · rename_i c q
    split at hd
    · rename_i hl
      cases hd
      refine r σ G H ρ (.ref j) ρ _ E (by simp [gVar, q]) fun v G' H' P => k (σ.set i (some v)) G' H' ?_
      obtain ⟨a, o, e1, g, hh, ro⟩ := P.env.own j c q
      have ev : σ[j]? = some (some v) := P.rep
      rw [e1] at ev; cases ev
      have nc : ¬ Cl σ (ρ.set j .un) a := fun ⟨i', c', f1, f2⟩ => by
        rcases set_get f1 with ⟨_, z⟩ | ⟨n, z⟩
        · cases z
        · exact n (P.env.inj i' j c' c a z q f2 e1)
      have rp : LRep X.K fa G' H' (Cl σ (ρ.set j .un)) σ (.ref a) (.own c) := ⟨a, o, rfl, g, nc, hh, ro⟩
      refine ⟨⟨(P.env.hide j).set_own (by rw [List.length_set]; exact hl) rp, P.aft.gg, P.aft.keep, P.aft.gn, P.aft.there, fun b z => ?_⟩, Slots.set⟩
      rcases Cl.set_own z with z | z
      · rw [z]; exact P.aft.cs a ⟨j, c, q, e1⟩
      · exact P.aft.cs b (Cl.hide z)
    · cases hd
  · rename_i y q
    split at hd
    · rename_i hl
      cases hd
      exact r σ G H ρ (.t y) ρ _ E (by simp [gVar, q]) fun v G' H' P => k (σ.set i (some v)) G' H' (sto_ok P (by simp [stoE, hl]))
    · cases hd
  · cases hd
end

/-- a slot's own list is given away: from now on it is a tree -/
def dFrz (i : Nat) : Den := fun ρ => match ρ[i]? with
  | some (.own (.lst xs)) => some (.t (.lst xs), ρ.set i (.t (.lst xs)))
  | some (.t x) => some (.t x, ρ)
  | _ => none
theorem SE.frz {X : Cx} {fa : Nat → Addr} {e : Expr} {i : Nat} (h : SE X fa e (gVar i)) : SE X fa e (dFrz i) := by
  obtain ⟨t, p, r⟩ := h
  refine ⟨t, p, fun σ G H ρ l ρ' Q E hd k => ?_⟩
  unfold dFrz at hd
  split at hd
  · rename_i xs q
    cases hd
    refine r σ G H ρ (.ref i) ρ _ E (by simp [gVar, q]) fun v G' H' P => ?_
    obtain ⟨a, o, e1, g, hh, ro⟩ := P.env.own i _ q
    have ev : σ[i]? = some (some v) := P.rep
    rw [e1] at ev; cases ev
    cases o with
    | lst vs =>
      have ro : RepAll X.K fa G' vs xs := ro
      have sm : Same G' (upd G' a (.lst vs)) := fun b u e => by rw [upd_ne (ne_of_none e g)]; exact e
      have rp : Rep X.K fa (upd G' a (.lst vs)) (.ref a) (.lst xs) := .lst upd_same (ro.mono sm)
      have hi : i < ρ.length := (List.getElem?_eq_some_iff.mp q).1
      have old : ∀ (j : Nat) (c : OC), (ρ.set i (.t (.lst xs)))[j]? = some (.own c) → j ≠ i ∧ ρ[j]? = some (.own c) := fun j c e => by
        rcases set_get e with ⟨_, z⟩ | z
        · cases z
        · exact z
      refine k _ (upd G' a (.lst vs)) H' ⟨⟨P.aft.gg.trans sm, P.aft.keep, fun b u e n gb => ?_, P.aft.there, fun b z => ?_⟩, ⟨fun b u e => ?_, by rw [List.length_set]; exact P.env.len, fun j x e => ?_, fun j c e => ?_, fun j j' c c' b e1 e2 e3 e4 => ?_⟩, rp, trivial⟩
      · rw [upd_ne (show b ≠ a from fun z => n (by rw [z]; exact ⟨i, _, q, e1⟩))]
        exact P.aft.gn b u e n gb
      · obtain ⟨j, c, f1, f2⟩ := z
        exact P.aft.cs b ⟨j, c, (old j c f1).2, f2⟩
      · by_cases hb : b = a
        · subst hb; rw [upd_same] at e; cases e; exact hh
        · rw [upd_ne hb] at e; exact P.env.same b u e
      · rcases set_get e with ⟨rfl, z⟩ | ⟨n, z⟩
        · cases z; exact ⟨_, e1, rp⟩
        · obtain ⟨v, f1, f2⟩ := P.env.t j x z
          exact ⟨v, f1, f2.mono sm⟩
      · obtain ⟨n, z⟩ := old j c e
        obtain ⟨p, u, f1, f2, f3, f4⟩ := P.env.own j c z
        refine ⟨p, u, f1, ?_, f3, f4.mono sm⟩
        rw [upd_ne (show p ≠ a from fun hp => n (P.env.inj j i c _ a z q (by rw [f1, hp]) e1))]
        exact f2
      · exact P.env.inj j j' c c' b (old j c e1).2 (old j' c' e2).2 e3 e4
    | _ => exact (show False from ro).elim
  · rename_i y q
    cases hd
    exact r σ G H ρ (.t y) ρ _ E (by simp [gVar, q]) k
  · cases hd
/-! ### dicts whose keys are tuples of ints and texts, too -/
def keysOf : List T → Option (List Key)
  | [] => some []
  | x :: xs => x.key.bind fun k => (keysOf xs).map fun ks => k :: ks
def T.tkey : T → Option (List Key)
  | .tup xs => keysOf xs
  | _ => none
abbrev DTs := List (List Key × T)
def getT (kvs : DTs) (k : List Key) : Option T := (kvs.find? fun kv => decide (kv.1 = k)).map (·.2)
def putT (kvs : DTs) (k : List Key) (x : T) : DTs :=
  if (kvs.any fun kv => decide (kv.1 = k)) = true then kvs.map (fun kv => if kv.1 = k then (kv.1, x) else kv) else kvs ++ [(k, x)]
def L.tview (ρ : REnv) : L → Option DTs
  | .own (.dT kvs) => some kvs
  | .ref i => match ρ[i]? with
    | some (.own (.dT kvs)) => some kvs
    | _ => none
  | _ => none
section
variable {K : PySem.W.Frag} {fa : Nat → Addr} {G G' H H' : Hp} {σ : L2.St} {ρ ρ' : REnv} {C C' : Addr → Prop}
abbrev PrT2 (K : PySem.W.Frag) (fa : Nat → Addr) (G : Hp) : List (List Key × V) → DTs → Prop := Paired (fun p q => p.1 = q.1 ∧ Rep K fa G p.2 q.2)
theorem prT_get {k : List Key} : ∀ {vs : List (List Key × V)} {kvs : DTs}, PrT2 K fa G vs kvs → (∀ x, getT kvs k = some x → ∃ v, valV vs k = some v ∧ Rep K fa G v x) ∧ (getT kvs k = none → valV vs k = none)
  | _, _, .nil => ⟨fun x e => (by cases e), fun _ => rfl⟩
  | _, _, .cons (a := p) (b := q) a b => by
    have ⟨h1, h2⟩ := prT_get (k := k) b
    by_cases e : q.1 = k
    · have e' : p.1 = k := a.1.trans e
      have eg : ∀ r : DTs, getT (q :: r) k = some q.2 := fun r => by simp [getT, e]
      rw [eg]
      exact ⟨fun x hx => by cases hx; exact ⟨_, valV_pos e', a.2⟩, fun hx => by cases hx⟩
    · have e' : ¬ p.1 = k := fun z => e (a.1.symm.trans z)
      have eg : ∀ r : DTs, getT (q :: r) k = getT r k := fun r => by simp [getT, List.find?_cons, e]
      rw [eg, valV_neg e']
      exact ⟨h1, h2⟩
theorem prT_any {k : List Key} : ∀ {vs : List (List Key × V)} {kvs : DTs}, PrT2 K fa G vs kvs → (vs.any fun kv => decide (kv.1 = k)) = (kvs.any fun kv => decide (kv.1 = k))
  | _, _, .nil => rfl
  | _, _, .cons a b => by rw [List.any_cons, List.any_cons, a.1, prT_any b]
theorem prT_map {k : List Key} {v : V} {x : T} (r : Rep K fa G v x) : ∀ {vs : List (List Key × V)} {kvs : DTs}, PrT2 K fa G vs kvs →
    PrT2 K fa G (vs.map fun kv => if kv.1 = k then (kv.1, v) else kv) (kvs.map fun kv => if kv.1 = k then (kv.1, x) else kv)
  | _, _, .nil => .nil
  | _, _, .cons (a := p) (b := q) a b => by
    rw [List.map_cons, List.map_cons]
    refine .cons ?_ (prT_map r b)
    by_cases e : q.1 = k
    · rw [if_pos e, if_pos (a.1.trans e)]; exact ⟨a.1, r⟩
    · rw [if_neg e, if_neg fun z => e (a.1.symm.trans z)]; exact a
theorem prT_app : ∀ {vs ws : List (List Key × V)} {kvs lvs : DTs}, PrT2 K fa G vs kvs → PrT2 K fa G ws lvs → PrT2 K fa G (vs ++ ws) (kvs ++ lvs)
  | _, _, _, _, .nil, g => g
  | _, _, _, _, .cons a b, g => .cons a (prT_app b g)
theorem prT_put {k : List Key} {v : V} {x : T} (r : Rep K fa G v x) {vs : List (List Key × V)} {kvs : DTs} (h : PrT2 K fa G vs kvs) : PrT2 K fa G (putK vs k v) (putT kvs k x) := by
  unfold putK putT
  rw [prT_any h]
  by_cases e : (kvs.any fun kv => decide (kv.1 = k)) = true
  · rw [if_pos e, if_pos e]; exact prT_map r h
  · rw [if_neg e, if_neg e]; exact prT_app h (.cons ⟨rfl, r⟩ .nil)
theorem prT_len : ∀ {vs : List (List Key × V)} {kvs : DTs}, PrT2 K fa G vs kvs → vs.length = kvs.length
  | _, _, .nil => rfl
  | _, _, .cons a b => by rw [List.length_cons, List.length_cons, prT_len b]
theorem keys_V : ∀ {xs : List T} {vs : List V} {ks : List Key}, RepAll K fa G vs xs → keysOf xs = some ks → vs = ks.map kV
  | [], _, _, r, h => by cases r; cases h; rfl
  | x :: xs, _, ks, r, h => by
    cases r with
    | cons a b =>
      cases q : x.key with
      | none => simp [keysOf, q] at h
      | some k =>
        cases q2 : keysOf xs with
        | none => simp [keysOf, q, q2] at h
        | some ks' =>
          simp [keysOf, q, q2] at h
          subst h
          rw [List.map_cons, key_V a q, keys_V b q2]
theorem tkey_V {v : V} {x : T} {ks : List Key} (r : Rep K fa G v x) (h : x.tkey = some ks) : ∃ b, v = .ref b ∧ G b = some (.tup (ks.map kV)) := by
  cases x with
  | tup xs =>
    cases r with
    | tup e a => exact ⟨_, rfl, by rw [e, keys_V a h]⟩
  | _ => cases h
theorem tview_ok {v : V} {l : L} {xs : DTs} (E : EnvOk K fa G H σ ρ) (h : LRep K fa G H C σ v l) (e : l.tview ρ = some xs) : ∃ a vs, v = .ref a ∧ H a = some (.dT vs) ∧ PrT2 K fa G vs xs := by
  cases l with
  | un => cases e
  | t y => cases e
  | own c =>
    cases c with
    | dT ys =>
      cases e
      obtain ⟨p, o, rfl, g, n, hh, r⟩ := h
      cases o with
      | dT vs => exact ⟨p, vs, rfl, hh, r⟩
      | _ => exact (show False from r).elim
    | _ => cases e
  | ref i =>
    cases q : ρ[i]? with
    | none => simp only [L.tview, q] at e; cases e
    | some m =>
      simp only [L.tview, q] at e
      cases m with
      | own c =>
        cases c with
        | dT ys =>
          cases e
          obtain ⟨a, o, e1, e2, e3, e4⟩ := E.own i _ q
          have e5 : σ[i]? = some (some v) := h
          rw [e1] at e5; cases e5
          cases o with
          | dT vs => exact ⟨a, vs, rfl, e3, e4⟩
          | _ => exact (show False from e4).elim
        | _ => cases e
      | _ => cases e
/-- what stands at a key; none: no such dict and key -/
def dlook (ρ : REnv) (l : L) (y : T) : Option (Option T) := match l.dview ρ with
  | some kvs => y.key.map fun k => getD kvs k
  | none => (l.tview ρ).bind fun kvs => y.tkey.map fun k => getT kvs k
theorem dlook_ok {v w : V} {l : L} {y : T} {o : Option T} (E : EnvOk K fa G H σ ρ) (h : LRep K fa G H C σ v l) (r : Rep K fa H w y) (e : dlook ρ l y = some o) :
    ∃ a o', v = .ref a ∧ DGet H a w o' ∧ o'.isSome = o.isSome ∧ ∀ x, o = some x → ∃ u, o' = some u ∧ Rep K fa G u x := by
  unfold dlook at e
  split at e
  · rename_i kvs q
    cases q2 : y.key with
    | none => simp [q2] at e
    | some k =>
      simp [q2] at e
      subst e
      obtain ⟨a, vs, rfl, hp, rp⟩ := dview_ok E h q
      have ⟨g1, g2⟩ := prD_get (k := k) rp
      cases q3 : getD kvs k with
      | none => exact ⟨a, none, rfl, .inl ⟨vs, k, hp, key_V r q2, (g2 q3).symm⟩, rfl, fun x z => by cases z⟩
      | some u =>
        obtain ⟨u', h1, h2⟩ := g1 u q3
        exact ⟨a, some u', rfl, .inl ⟨vs, k, hp, key_V r q2, h1.symm⟩, rfl, fun x z => by cases z; exact ⟨u', rfl, h2⟩⟩
  · cases q : l.tview ρ with
    | none => simp [q] at e
    | some kvs =>
      cases q2 : y.tkey with
      | none => simp [q, q2] at e
      | some k =>
        simp [q, q2] at e
        subst e
        obtain ⟨a, vs, rfl, hp, rp⟩ := tview_ok E h q
        obtain ⟨b, rfl, hb⟩ := tkey_V r q2
        have ⟨g1, g2⟩ := prT_get (k := k) rp
        cases q3 : getT kvs k with
        | none => exact ⟨a, none, rfl, .inr ⟨vs, k, b, .inl hp, rfl, hb, (g2 q3).symm⟩, rfl, fun x z => by cases z⟩
        | some u =>
          obtain ⟨u', h1, h2⟩ := g1 u q3
          exact ⟨a, some u', rfl, .inr ⟨vs, k, b, .inl hp, rfl, hb, h1.symm⟩, rfl, fun x z => by cases z; exact ⟨u', rfl, h2⟩⟩
end
section
variable {X : Cx} {fa : Nat → Addr} {e o f : Expr} {pos apos cpos : Pos} {d d1 d2 d3 : Den}
/-- {}, to be filled by tuples -/
def dDicT : Den := fun ρ => some (.own (.dT []), ρ)
theorem SE.dicT : SE X fa (.Dict [] [] pos) dDicT := by
  refine ⟨_, pe_dnewT, fun σ G H ρ l ρ' Q E hd k => ?_⟩
  cases hd
  intro p hp
  have ⟨a, b, c⟩ := (At.start E).newOwn (o := .dT []) (c := .dT []) hp (Paired.nil)
  exact k _ _ _ ⟨a.aft, a.env, b, c⟩
/-- k in d -/
def gDin (ρ : REnv) (l1 l2 : L) : Option Bool := (l1.view ρ).bind fun y => (dlook ρ l2 y).map fun o => o.isSome
def gDnotin (ρ : REnv) (l1 l2 : L) : Option Bool := (gDin ρ l1 l2).map fun b => !b
theorem din_read {t1 t2 : TE} (r1 : Rd1 X fa t1 d1) (r2 : Rd1 X fa t2 d2) : Rd1 X fa (tDIn t1 t2) (den2 (gB gDin) d1 d2) := by
  intro σ G H ρ l ρ' Q E hd k
  cases q : d1 ρ with
  | none => simp [den2, q] at hd
  | some z =>
    cases q1 : d2 z.2 with
    | none => simp [den2, q, q1] at hd
    | some w =>
      cases q2 : z.1.view w.2 with
      | none => simp [den2, q, q1, gB, gDin, q2] at hd
      | some y =>
        cases q3 : dlook w.2 w.1 y with
        | none => simp [den2, q, q1, gB, gDin, q2, q3] at hd
        | some o =>
          simp [den2, q, q1, gB, gDin, q2, q3] at hd
          obtain ⟨rfl, rfl⟩ := hd
          refine r1 σ G H ρ z.1 z.2 _ E q fun v1 G1 H1 P1 => r2 σ G1 H1 z.2 w.1 w.2 _ P1.env q1 fun v2 G2 H2 P2 => ?_
          have O := P1.then2 P2
          obtain ⟨a, o', rfl, g, hs, _⟩ := dlook_ok O.env O.r2 (view_ok O.env O.r1 q2) q3
          exact ⟨a, o', rfl, g, by rw [hs]; exact k _ G2 H2 (O.toAt.bl _).post⟩
theorem dnotin_read {t1 t2 : TE} (r1 : Rd1 X fa t1 d1) (r2 : Rd1 X fa t2 d2) : Rd1 X fa (tDNotIn t1 t2) (den2 (gB gDnotin) d1 d2) := by
  intro σ G H ρ l ρ' Q E hd k
  cases q : d1 ρ with
  | none => simp [den2, q] at hd
  | some z =>
    cases q1 : d2 z.2 with
    | none => simp [den2, q, q1] at hd
    | some w =>
      cases q2 : z.1.view w.2 with
      | none => simp [den2, q, q1, gB, gDnotin, gDin, q2] at hd
      | some y =>
        cases q3 : dlook w.2 w.1 y with
        | none => simp [den2, q, q1, gB, gDnotin, gDin, q2, q3] at hd
        | some o =>
          have hd : (L.t (.bl (!o.isSome)), w.2) = (l, ρ') := by
            have := hd
            simp only [den2, q, q1, gB, gDnotin, gDin, q2, q3, Option.bind_some, Option.map_some, Option.some.injEq] at this
            exact this
          cases hd
          refine r1 σ G H ρ z.1 z.2 _ E q fun v1 G1 H1 P1 => r2 σ G1 H1 z.2 w.1 w.2 _ P1.env q1 fun v2 G2 H2 P2 => ?_
          have O := P1.then2 P2
          obtain ⟨a, o', rfl, g, hs, _⟩ := dlook_ok O.env O.r2 (view_ok O.env O.r1 q2) q3
          exact ⟨a, o', rfl, g, by rw [hs]; exact k _ G2 H2 (O.toAt.bl _).post⟩
theorem SE.din (hu : X.A.units + 1 < cLine) (h1 : SE X fa e d1) (h2 : SE X fa o d2) (hm : behindInMarks .In o = false) : SE X fa (.Compare e [.In] [o] pos) (den2 (gB gDin) d1 d2) := by
  obtain ⟨t1, p1, r1⟩ := h1
  obtain ⟨t2, p2, r2⟩ := h2
  exact ⟨_, pe_cmp (pc_din hu p1 p2) hm, din_read r1 r2⟩
theorem ST.din (hu : X.A.units + 1 < cLine) (h1 : SE X fa e d1) (h2 : SE X fa o d2) (hm : behindInMarks .In o = false) : ST X fa (.Compare e [.In] [o] pos) (dBl (den2 (gB gDin) d1 d2)) := by
  obtain ⟨t1, p1, r1⟩ := h1
  obtain ⟨t2, p2, r2⟩ := h2
  exact ⟨_, pt_cmp (pc_din hu p1 p2) hm, test_read (din_read r1 r2)⟩
theorem SE.dnotin (hu : X.A.units + 1 < cLine) (h1 : SE X fa e d1) (h2 : SE X fa o d2) (hm : behindInMarks .NotIn o = false) : SE X fa (.Compare e [.NotIn] [o] pos) (den2 (gB gDnotin) d1 d2) := by
  obtain ⟨t1, p1, r1⟩ := h1
  obtain ⟨t2, p2, r2⟩ := h2
  exact ⟨_, pe_cmp (pc_dnotin hu p1 p2) hm, dnotin_read r1 r2⟩
theorem ST.dnotin (hu : X.A.units + 1 < cLine) (h1 : SE X fa e d1) (h2 : SE X fa o d2) (hm : behindInMarks .NotIn o = false) : ST X fa (.Compare e [.NotIn] [o] pos) (dBl (den2 (gB gDnotin) d1 d2)) := by
  obtain ⟨t1, p1, r1⟩ := h1
  obtain ⟨t2, p2, r2⟩ := h2
  exact ⟨_, pt_cmp (pc_dnotin hu p1 p2) hm, test_read (dnotin_read r1 r2)⟩
/-- d[k] -/
def gDgetG (ρ : REnv) (l1 l2 : L) : Option L := (l2.view ρ).bind fun y => (dlook ρ l1 y).bind fun o => o.map L.t
theorem SE.dgetG (hu : X.A.units + 1 < cLine) (h1 : SE X fa o d1) (h2 : SE X fa e d2) (hs : NoSl e) : SE X fa (.Subscript o e pos) (den2 gDgetG d1 d2) := by
  obtain ⟨t1, p1, r1⟩ := h1
  obtain ⟨t2, p2, r2⟩ := h2
  refine ⟨_, pe_dget hu p1 p2 hs, fun σ G H ρ l ρ' Q E hd k => ?_⟩
  cases q : d1 ρ with
  | none => simp [den2, q] at hd
  | some z =>
    cases q1 : d2 z.2 with
    | none => simp [den2, q, q1] at hd
    | some w =>
      cases q2 : w.1.view w.2 with
      | none => simp [den2, q, q1, gDgetG, q2] at hd
      | some y =>
        cases q3 : dlook w.2 z.1 y with
        | none => simp [den2, q, q1, gDgetG, q2, q3] at hd
        | some oo =>
          cases oo with
          | none => simp [den2, q, q1, gDgetG, q2, q3] at hd
          | some u =>
            simp [den2, q, q1, gDgetG, q2, q3] at hd
            obtain ⟨rfl, rfl⟩ := hd
            refine r1 σ G H ρ z.1 z.2 _ E q fun v1 G1 H1 P1 => r2 σ G1 H1 z.2 w.1 w.2 _ P1.env q1 fun v2 G2 H2 P2 => ?_
            have O := P1.then2 P2
            obtain ⟨a, o', rfl, g, hs, hr⟩ := dlook_ok O.env O.r1 (view_ok O.env O.r2 q2) q3
            obtain ⟨v, rfl, rv⟩ := hr u rfl
            exact ⟨a, v, rfl, g, k v G2 H2 (O.toAt.tr rv).post⟩
/-- d[k] = v, k a tuple -/
def isOwnDT (ρ : REnv) (i : Nat) : Bool := match ρ[i]? with
  | some (.own (.dT _)) => true
  | _ => false
theorem isOwnDT_inv {ρ : REnv} {i : Nat} (h : isOwnDT ρ i = true) : ∃ xs, ρ[i]? = some (.own (.dT xs)) := by
  unfold isOwnDT at h
  split at h
  · rename_i xs e; exact ⟨xs, e⟩
  · cases h
def dDputT (i : Nat) (dk dv : Den) : DenS := fun ρ => (dv ρ).bind fun p => p.1.tree.bind fun x => if isOwnDT p.2 i then (dk p.2).bind fun q => q.1.tree.bind fun y => y.tkey.bind fun k => (match q.2[i]? with
  | some (.own (.dT kvs)) => if kvs.length < line then some (.nx, q.2.set i (.own (.dT (putT kvs k x)))) else none
  | _ => none) else none
theorem SS.dputT {i : Nat} {x : Str} {pn pos' : Pos} {dk dv : Den} (hu : X.A.units + 1 < cLine) (hN : X.N[i]? = some x) (hv : visO (X.env.scope.names.lookup x) = true) (hd : (x == ("__debug__" : Str)) = false) (hcd : (x == ("__classdict__" : Str)) = false)
    (hk : SE X fa e dk) (h : SE X fa f dv) (hs : swapsWith f (some (.Subscript (.Name x pn) e pos')) pos.line X.env = pure false) : SS X fa (.Assign [.Subscript (.Name x pn) e pos'] f pos) [] (dDputT i dk dv) := by
  obtain ⟨t1, p1, r1⟩ := h
  obtain ⟨t2, p2, r2⟩ := hk
  refine ⟨_, ps_dput hu (pe_var hN (vis_of hv) hd hcd) p2 p1 hs, fun σ G H ρ fl ρ' D E hd k => ?_⟩
  cases q : dv ρ with
  | none => simp [dDputT, q] at hd
  | some z =>
    cases q1 : z.1.tree with
    | none => simp [dDputT, q, q1] at hd
    | some xv =>
      by_cases ho : isOwnDT z.2 i = true
      · cases q2 : dk z.2 with
        | none => simp [dDputT, q, q1, ho, q2] at hd
        | some w =>
          cases q3 : w.1.tree with
          | none => simp [dDputT, q, q1, ho, q2, q3] at hd
          | some y =>
            cases q4 : y.tkey with
            | none => simp [dDputT, q, q1, ho, q2, q3, q4] at hd
            | some kk =>
              cases q5 : w.2[i]? with
              | none => simp [dDputT, q, q1, ho, q2, q3, q4, q5] at hd
              | some m =>
                cases m with
                | own c =>
                  cases c with
                  | dT kvs =>
                    by_cases hl : kvs.length < line
                    · simp [dDputT, q, q1, ho, q2, q3, q4, q5, hl] at hd
                      obtain ⟨rfl, rfl⟩ := hd
                      refine r1 σ G H ρ z.1 z.2 _ E q fun v1 G1 H1 P1 => ?_
                      obtain ⟨G2, E2, R2, A2, sm2, _⟩ := toTree P1.env P1.rep P1.new P1.aft q1
                      obtain ⟨c', hc'⟩ := isOwnDT_inv ho
                      obtain ⟨a0, o0, e0, g0, h0, r0⟩ := E2.own i _ hc'
                      refine ⟨_, e0, r2 σ G2 H1 z.2 w.1 w.2 _ E2 q2 fun v2 G3 H3 P3 => ?_⟩
                      obtain ⟨G4, E4, R4, A4, sm4, _⟩ := toTree P3.env P3.rep P3.new P3.aft q3
                      obtain ⟨p, oo, f1, g, f3, f4⟩ := E4.own i _ q5
                      rw [e0] at f1; cases f1
                      cases oo with
                      | dT ws =>
                        have f4 : PrT2 X.K fa G4 ws kvs := f4
                        obtain ⟨b, rfl, hb⟩ := tkey_V R4 q4
                        refine ⟨a0, _, rfl, .inr ⟨ws, kk, b, f3, rfl, E4.same _ _ hb, by rw [prT_len f4, ← line_eq]; exact hl, rfl⟩, ?_⟩
                        have A1 : At X.K fa (Cl σ ρ) G H G4 H3 σ w.2 := ⟨E4, A2.trans A4⟩
                        exact k σ G4 _ ⟨A1.put (c' := .dT (putT kvs kk xv)) (o' := .dT (putK ws kk v1)) q5 e0 f3 (prT_put (R2.mono A4.gg) f4), Slots.refl⟩
                      | _ => exact (show False from f4).elim
                    · simp [dDputT, q, q1, ho, q2, q3, q4, q5, hl] at hd
                  | _ => simp [dDputT, q, q1, ho, q2, q3, q4, q5] at hd
                | _ => simp [dDputT, q, q1, ho, q2, q3, q4, q5] at hd
      · simp [dDputT, q, q1, ho] at hd
end
end LW
namespace LW
open PySem PySem.Spec PyProof.Rows L2

/-! ### two clauses: [elt for a in xs if t for b in ys if u] -/
abbrev DenI0 := REnv → Option (List T × REnv)
/-- what a clause further in walks: nothing that could change -/
def tDI (K : PySem.W.Frag) (fa : Nat → Addr) (d : DenI0) : TI := fun σ H R => ∃ (G : Hp) (ρ : REnv) (xs : List T) (ρ' : REnv), EnvOk K fa G H σ ρ ∧ d ρ = some (xs, ρ') ∧
  ∀ J Kp G' H', At K fa (Cl σ ρ) G H G' H' σ ρ' → Walks K fa J [] xs Kp → Kp G' H' → R J H'
def SI0 (X : Cx) (fa : Nat → Addr) (tg iter : Expr) (d : DenI0) : Prop := PI X tg iter (tDI X.K fa d)
def iR1 (d : DenA) : DenI0 := fun ρ => (d ρ).bind fun p => match p.1 with
  | [.int j] => if inBig j then some (rangeU 0 j.toNat, p.2) else none
  | _ => none
def iR2 (d : DenA) : DenI0 := fun ρ => (d ρ).bind fun p => match p.1 with
  | [.int i, .int j] => if inBig i && inBig j then some (rangeU i (j - i).toNat, p.2) else none
  | _ => none
/-- a tree: a tuple, a list that stays -/
def iTr (d : Den) : DenI0 := fun ρ => (d ρ).bind fun p => match p.1 with
  | .t (.tup xs) => some (xs, p.2)
  | .t (.lkl xs) => some (xs, p.2)
  | .t (.lst xs) => some (xs, p.2)
  | _ => none
section
variable {X : Cx} {fa : Nat → Addr} {tg e : Expr} {pos : Pos} {d : Den}
theorem SI0.range1 {a : Expr} {d : DenA} {p : Pos} (hg : Gl X "range") (hm : X.mg "range" = none) (ha : SA X fa [a] d) (hs : starEach [a] X.env = [(false, eval a X.env)]) : SI0 X fa tg (.Call (.Name "range" p) [a] [] pos) (iR1 d) := by
  obtain ⟨t, pa, r⟩ := ha
  refine ⟨fun pins s σ H R I ⟨G, ρ, xs, ρ', E, hd, k⟩ => (pi_range1 hg hm pa hs).run pins s σ H R I ?_⟩
  cases q : d ρ with
  | none => simp [iR1, q] at hd
  | some z =>
    simp only [iR1, q, Option.bind_some] at hd
    split at hd
    · rename_i j ez
      split at hd
      · rename_i hb
        cases hd
        refine r σ G H ρ z.1 z.2 _ E q fun vs G' H' A rr => ?_
        rw [ez] at rr
        have hb := inBig_of hb
        exact ⟨j, RepAll.ints (ns := [j]) rr, hb.1, hb.2, k _ _ _ _ A walks_u trivial⟩
      · cases hd
    · cases hd
theorem SI0.tree (h : SE X fa e d) : SI0 X fa tg e (iTr d) := by
  have p := h.pe
  refine ⟨fun pins s σ H R I ⟨G, ρ, xs, ρ', E, hd, k⟩ => (pi_or (pi_list p) (pi_tup p)).run pins s σ H R I ?_⟩
  cases q : d ρ with
  | none => simp [iTr, q] at hd
  | some z =>
    simp only [iTr, q, Option.bind_some] at hd
    split at hd
    · rename_i ys ez
      cases hd
      refine .inr ⟨G, ρ, z.1, z.2, E, q, fun v G' H' P => ?_⟩
      have rp := P.rep
      rw [ez] at rp
      cases (show Rep X.K fa G' v _ from rp) with
      | @tup a vs _ s r => exact ⟨a, rfl, ⟨vs, same_sqT P.env.same (.of s)⟩, k _ _ _ _ ⟨P.env, P.aft⟩ walks_t ⟨.of s, r⟩⟩
    · rename_i ys ez
      cases hd
      refine .inl ⟨G, ρ, z.1, z.2, E, q, fun v G' H' P => ?_⟩
      have rp := P.rep
      rw [ez] at rp
      cases (show Rep X.K fa G' v _ from rp) with
      | @lkl a vs _ s r => exact ⟨a, rfl, ⟨vs, P.env.same.seq s⟩, k _ _ _ _ ⟨P.env, P.aft⟩ walks_l ⟨s, r⟩⟩
    · rename_i ys ez
      cases hd
      refine .inl ⟨G, ρ, z.1, z.2, E, q, fun v G' H' P => ?_⟩
      have rp := P.rep
      rw [ez] at rp
      cases (show Rep X.K fa G' v _ from rp) with
      | @lst a vs _ s r => exact ⟨a, rfl, ⟨vs, P.env.same.seq (.of s)⟩, k _ _ _ _ ⟨P.env, P.aft⟩ walks_l ⟨.of s, r⟩⟩
    · cases hd
end
def compL2 (vs : List Nat) (g : DenG) (dt : DenT) (src1 : DenI0) (vs1 : List Nat) (g1 : DenG) (dt1 : DenT) (de : Den) : List T → REnv → Option (List T × REnv)
  | [], ρ => some ([], ρ)
  | x :: xs, ρ => (g x ρ).bind fun ρa => (dt ρa).bind fun p =>
    if p.1 then (src1 p.2).bind fun s => (compL vs1 g1 dt1 de s.1 (wipeE s.2 vs1)).bind fun q =>
      (compL2 vs g dt src1 vs1 g1 dt1 de xs (wipeE q.2 vs)).map fun r => (q.1 ++ r.1, r.2)
    else compL2 vs g dt src1 vs1 g1 dt1 de xs (wipeE p.2 vs)
def compD2 (src : DenI) (vs : List Nat) (g : DenG) (dt : DenT) (src1 : DenI0) (vs1 : List Nat) (g1 : DenG) (dt1 : DenT) (de : Den) : Den := fun ρ => (src ρ).bind fun s =>
  (compL2 vs g dt src1 vs1 g1 dt1 de s.1 (wipeE (hideO s.2.1 s.2.2) vs)).bind fun r => if r.1.length ≤ line then some (.own (.lst r.1), restE s.2.2 r.2 (s.2.1.toList ++ vs)) else none
section
variable {X : Cx} {fa : Nat → Addr}
/-- the slots come back when a comprehension is done -/
theorem comp_back {K : PySem.W.Frag} {G H G1 H1 Gi Hi : Hp} {σ : L2.St} {ρ ρ1 ρi : REnv} {ho : Option Nat} {vs : List Nat} {D : Addr} {acc : List V} {ys : List T}
    (A1 : At K fa (Cl σ ρ) G H G1 H1 σ ρ1) (hD : H1 D = none) (Ai : At K fa (Cl (wipe σ vs) (wipeE (hideO ho ρ1) vs)) G1 H1 Gi Hi (wipe σ vs) ρi) (hDi : Hi D = some (.lst acc)) (gDi : Gi D = none) (nDi : ¬ Cl (wipe σ vs) ρi D) (ra : RepAll K fa Gi acc ys) :
    Post K fa G H σ ρ (.own (.lst ys)) (restE ρ1 ρi (ho.toList ++ vs)) (.ref D) Gi Hi := by
  have lenE : ρ1.length = ρi.length := by rw [A1.env.len, Ai.env.len, wipe_length]
  have sub0 : ∀ a, Cl σ (hideO ho ρ1) a → Cl σ ρ1 a := by
    cases ho with
    | none => exact fun a h => h
    | some i => exact fun a h => Cl.hide h
  have sub1 : ∀ a, Cl (wipe σ vs) (wipeE (hideO ho ρ1) vs) a → Cl σ ρ1 a := fun a h => sub0 a (Cl.wipe h).1
  have keepK : ∀ (j : Nat) (c : OC) (a : Addr), j ∈ ho.toList ++ vs → ρ1[j]? = some (.own c) → σ[j]? = some (some (.ref a)) → ¬ Cl (wipe σ vs) (wipeE (hideO ho ρ1) vs) a := fun j c a hj e1 e2 h => by
    obtain ⟨_, j', c', n', f1, f2⟩ := Cl.wipe h
    have f3 : ρ1[j']? = some (.own c') ∧ ho ≠ some j' := by
      cases ho with
      | none => exact ⟨f1, by simp⟩
      | some t =>
        rcases set_get (show (ρ1.set t .un)[j']? = some (.own c') from f1) with ⟨_, z⟩ | ⟨n, z⟩
        · cases z
        · exact ⟨z, fun e => n (by cases e; rfl)⟩
    obtain rfl : j = j' := A1.env.inj j j' c c' a e1 f3.1 e2 f2
    rcases List.mem_append.mp hj with z | z
    · cases ho with
      | none => simp at z
      | some t => simp at z; subst z; exact f3.2 rfl
    · exact n' z
  have there1 : ∀ (j : Nat) (c : OC) (a : Addr), ρ1[j]? = some (.own c) → σ[j]? = some (some (.ref a)) → ∃ o, H1 a = some o ∧ G1 a = none ∧ ORep K fa G1 o c := fun j c a e1 e2 => by
    obtain ⟨p, o, f1, f2, f3, f4⟩ := A1.env.own j c e1
    rw [e2] at f1; cases f1
    exact ⟨o, f3, f2, f4⟩
  have back : ∀ {j : Nat}, j ∉ ho.toList ++ vs → (wipe σ vs)[j]? = σ[j]? := fun h => LW.wipe_out fun z => h (List.mem_append_right _ z)
  have csub : ∀ a, Cl σ (restE ρ1 ρi (ho.toList ++ vs)) a → Cl σ ρ1 a ∨ Cl (wipe σ vs) ρi a := fun a ⟨j, c, e1, e2⟩ => by
    rcases restE_get lenE e1 with ⟨_, h2⟩ | ⟨h1, h2⟩
    · exact .inl ⟨j, c, h2, e2⟩
    · exact .inr ⟨j, c, h2, (back h1).trans e2⟩
  have upA : Aft (Cl σ ρ1) (Cl σ (restE ρ1 ρi (ho.toList ++ vs))) G1 H1 Gi Hi :=
    ⟨Ai.aft.gg, fun a o e n => Ai.aft.keep a o e fun z => n (sub1 a z), fun a o e n g => Ai.aft.gn a o e (fun z => n (sub1 a z)) g, Ai.aft.there, fun a h => by
      rcases csub a h with z | z
      · exact .inl z
      · exact (Ai.aft.cs a z).imp (sub1 a) id⟩
  have cross : ∀ (a : Addr) (j j' : Nat) (c c' : OC), j ∈ ho.toList ++ vs → ρ1[j]? = some (.own c) → σ[j]? = some (some (.ref a)) → j' ∉ ho.toList ++ vs → ρi[j']? = some (.own c') → σ[j']? = some (some (.ref a)) → False := fun a j j' c c' h1 h2 h3 h4 h5 h6 => by
    rcases Ai.aft.cs a ⟨j', c', h5, (back h4).trans h6⟩ with z | z
    · exact keepK j c a h1 h2 h3 z
    · obtain ⟨o, f, _⟩ := there1 j c a h2 h3
      rw [z] at f; cases f
  refine ⟨A1.aft.trans upA, ⟨Ai.env.same, by rw [restE_len, ← lenE]; exact A1.env.len, fun j x e => ?_, fun j c e => ?_, fun j j' c c' a e1 e2 e3 e4 => ?_⟩, ⟨D, .lst acc, rfl, gDi, fun z => ?_, hDi, ra⟩, fun a e => ?_⟩
  · rcases restE_get lenE e with ⟨h1, h2⟩ | ⟨h1, h2⟩
    · obtain ⟨v, f1, f2⟩ := A1.env.t j x h2
      exact ⟨v, f1, f2.mono Ai.aft.gg⟩
    · obtain ⟨v, f1, f2⟩ := Ai.env.t j x h2
      exact ⟨v, (back h1).symm.trans f1, f2⟩
  · rcases restE_get lenE e with ⟨h1, h2⟩ | ⟨h1, h2⟩
    · obtain ⟨a, o, f1, f2, f3, f4⟩ := A1.env.own j c h2
      have nc := keepK j c a h1 h2 f1
      exact ⟨a, o, f1, Ai.aft.gn a o f3 nc f2, Ai.aft.keep a o f3 nc, f4.mono Ai.aft.gg⟩
    · obtain ⟨a, o, f1, f2⟩ := Ai.env.own j c h2
      exact ⟨a, o, (back h1).symm.trans f1, f2⟩
  · rcases restE_get lenE e1 with ⟨h1, h2⟩ | ⟨h1, h2⟩
    · rcases restE_get lenE e2 with ⟨h3, h4⟩ | ⟨h3, h4⟩
      · exact A1.env.inj j j' c c' a h2 h4 e3 e4
      · exact (cross a j j' c c' h1 h2 e3 h3 h4 e4).elim
    · rcases restE_get lenE e2 with ⟨h3, h4⟩ | ⟨h3, h4⟩
      · exact (cross a j' j c' c h3 h4 e4 h1 h2 e3).elim
      · exact Ai.env.inj j j' c c' a h2 h4 ((back h1).trans e3) ((back h3).trans e4)
  · rcases csub D z with z | z
    · obtain ⟨j, c, f1, f2⟩ := z
      obtain ⟨o, f, _⟩ := there1 j c D f1 f2
      rw [hD] at f; cases f
    · exact nDi z
  · cases e
    exact A1.aft.there D hD
theorem SE.comp2 {elt tg iter tg1 iter1 : Expr} {ifs ifs1 : List Expr} {scope : Scope} {own : List (Str × Nat)} {vs vs1 : List Nat} {pos : Pos} {src : DenI} {src1 : DenI0} {as as1 : List Nat} {g g1 : DenG} {dt dt1 : DenT} {de : Den} (hvs : own.map (·.2) = vs) (hc : X.calm = true) (hN : X.N.Nodup) (hi : SI X fa tg iter src)
    (ok : BlkOk X.N X.env.scope scope own) (has : ∀ i ∈ as, i ∈ vs) (hv1 : ∀ i ∈ vs1, i ∈ vs) (has1 : ∀ i ∈ as1, i ∈ vs1)
    (hg : ∀ (s : Shared) (H : Hp) (C : Addr) (cl : List (Str × Addr)) (fp : List Addr), SG (X.blk s H scope (compEnvC scope cl C X.env) fp) fa tg as g)
    (ht : ∀ (s : Shared) (H : Hp) (C : Addr) (cl : List (Str × Addr)) (fp : List Addr), STs (X.blk s H scope (compEnvC scope cl C X.env) fp) fa ifs dt)
    (hi1 : ∀ (s : Shared) (H : Hp) (C : Addr) (cl : List (Str × Addr)) (fp : List Addr), SI0 (X.blk s H scope (compEnvC scope cl C X.env) fp) fa tg1 iter1 src1)
    (hg1 : ∀ (s : Shared) (H : Hp) (C : Addr) (cl : List (Str × Addr)) (fp : List Addr), SG (X.blk s H scope (compEnvC scope cl C X.env) fp) fa tg1 as1 g1)
    (ht1 : ∀ (s : Shared) (H : Hp) (C : Addr) (cl : List (Str × Addr)) (fp : List Addr), STs (X.blk s H scope (compEnvC scope cl C X.env) fp) fa ifs1 dt1)
    (he : ∀ (s : Shared) (H : Hp) (C : Addr) (cl : List (Str × Addr)) (fp : List Addr), SE (X.blk s H scope (compEnvC scope cl C X.env) fp) fa elt de) (hs : ∀ x, foldedSetIterable iter X.env x = pure x) (hs1 : ∀ env x, foldedSetIterable iter1 env x = pure x) :
    PE X (.ListComp elt [⟨tg, iter, ifs, 0⟩, ⟨tg1, iter1, ifs1, 0⟩] scope pos) (tD X.K fa (compD2 src vs g dt src1 vs1 g1 dt1 de)) ∧
    ∃ wi, PI X tg iter wi ∧ ∀ (σ : L2.St) (H : Hp) (Q : VK), tD X.K fa (compD2 src vs g dt src1 vs1 g1 dt1 de) σ H Q → tLc2 wi (tDG X.K fa as g) (tDT X.K fa dt) (tDI X.K fa src1) (tDG X.K fa as1 g1) (tDT X.K fa dt1) (tD X.K fa de) vs vs1 σ H Q := by
  subst hvs
  obtain ⟨wi, pi, ri⟩ := hi
  have key : ∀ (σ : L2.St) (H : Hp) (Q : VK), tD X.K fa (compD2 src (own.map (·.2)) g dt src1 vs1 g1 dt1 de) σ H Q → tLc2 wi (tDG X.K fa as g) (tDT X.K fa dt) (tDI X.K fa src1) (tDG X.K fa as1 g1) (tDT X.K fa dt1) (tD X.K fa de) (own.map (·.2)) vs1 σ H Q := by
    rintro σ H Q ⟨G, ρ, l, ρ', E, hd, k⟩
    generalize own.map (·.2) = vs at *
    cases q0 : src ρ with
    | none => simp [compD2, q0] at hd
    | some z =>
    obtain ⟨xs, ho, ρ1⟩ := z
    cases q1 : compL2 vs g dt src1 vs1 g1 dt1 de xs (wipeE (hideO ho ρ1) vs) with
    | none => simp [compD2, q0, q1] at hd
    | some r =>
    obtain ⟨ys, ρ2⟩ := r
    by_cases hz : ys.length ≤ line
    case neg => simp [compD2, q0, q1, hz] at hd
    simp [compD2, q0, q1, hz] at hd
    obtain ⟨rfl, rfl⟩ := hd
    refine ri σ G H ρ xs ho ρ1 _ E q0 fun J bs Kp G1 H1 A1 W kp hb D hD => ?_
    have E0 : EnvOk X.K fa G1 H1 σ (hideO ho ρ1) := by
      cases ho with
      | none => exact A1.env
      | some i => exact A1.env.hide i
    have Ew := E0.wipe vs
    have c1sub : ∀ a, Cl (wipe σ vs) (wipeE (hideO ho ρ1) vs) a → Cl σ (hideO ho ρ1) a := fun a h => (Cl.wipe h).1
    have nbD : ∀ b ∈ bs, b ≠ D := fun b hbb z => (hb b hbb).1 (by rw [z]; exact hD)
    refine ⟨fun i m H' => m = xs.length - i ∧ i ≤ xs.length ∧ ∃ (G' : Hp) (ρi : REnv) (acc : List V) (yd rest : List T),
      At X.K fa (Cl (wipe σ vs) (wipeE (hideO ho ρ1) vs)) G1 H1 G' H' (wipe σ vs) ρi ∧ Kp G' H' ∧ H' D = some (.lst acc) ∧ G' D = none ∧ ¬ Cl (wipe σ vs) ρi D ∧ RepAll X.K fa G' acc yd ∧
      compL2 vs g dt src1 vs1 g1 dt1 de (xs.drop i) ρi = some (rest, ρ2) ∧ yd ++ rest = ys, ⟨xs.length, by simp, Nat.zero_le _, G1, wipeE (hideO ho ρ1) vs, [], [], ys, (At.start Ew).alloc hD, ?_, upd_same, E0.same.free hD, (At.start Ew).noCl hD, .nil, by simpa using q1, rfl⟩, ?_⟩
    · refine W.stb (fun a => a = D) (fun a => a = D) G1 H1 G1 _ kp ⟨Same.refl _, fun a o e n => by rw [upd_ne n]; exact e, fun _ _ _ _ g => g, fun a e => ?_, fun _ c => .inl c⟩ nbD
      by_cases hb : a = D
      · subst hb; exact hD
      · rw [upd_ne hb] at e; exact e
    rintro i m Hi ⟨rfl, hle, Gi, ρi, acc, yd, rest, Ai, kpi, hDi, gDi, nDi, ra, hcl, hy⟩
    by_cases hlt : i < xs.length
    case neg =>
      obtain rfl : i = xs.length := by omega
      simp [compL2] at hcl
      obtain ⟨rfl, rfl⟩ := hcl
      rw [List.append_nil] at hy
      subst hy
      exact .inl ⟨W.stop _ Gi Hi kpi Ai.env.same (Nat.le_refl _), k _ Gi Hi (comp_back A1 hD Ai hDi gDi nDi ra)⟩
    have ex : xs[i]? = some xs[i] := by simp [hlt]
    obtain ⟨go, yl⟩ := W.go i Gi Hi xs[i] kpi Ai.env.same ex
    rw [List.drop_eq_getElem_cons hlt] at hcl
    cases qa : g xs[i] ρi with
    | none => simp [compL2, qa] at hcl
    | some ρa =>
    cases qb : dt ρa with
    | none => simp [compL2, qa, qb] at hcl
    | some pb =>
    obtain ⟨b, ρb⟩ := pb
    refine .inr ⟨go, fun H' => ∃ (G' : Hp) (ρi : REnv) (acc : List V) (yd rest : List T),
      At X.K fa (Cl (wipe σ vs) (wipeE (hideO ho ρ1) vs)) G1 H1 G' H' (wipe σ vs) ρi ∧ Kp G' H' ∧ H' D = some (.lst acc) ∧ G' D = none ∧ ¬ Cl (wipe σ vs) ρi D ∧ RepAll X.K fa G' acc yd ∧
      compL2 vs g dt src1 vs1 g1 dt1 de (xs.drop (i + 1)) ρi = some (rest, ρ2) ∧ yd ++ rest = ys, fun H' h => ⟨xs.length - (i + 1), by omega, rfl, hlt, h⟩, fun v H' hv => ?_⟩
    obtain ⟨G', a1, sm, rv⟩ := yl v H' hv
    have a1' : Aft (Cl (wipe σ vs) ρi) (Cl (wipe σ vs) ρi) Gi Hi G' H' := a1.wide fun _ h => h.elim
    have E1 : EnvOk X.K fa G' H' (wipe σ vs) ρi := Ai.env.carry a1 sm fun _ _ h => h
    refine ⟨G', ρi, xs[i], ρa, E1, rv, qa, fun σ2 E2 c2 s2 => ?_⟩
    have hw : wipe σ2 vs = wipe σ vs := (s2.wiped has).trans (Slots.wiped (as := vs) ⟨wipe_length σ vs, fun j h => LW.wipe_out h⟩ fun _ h => h)
    refine ⟨hw, G', ρa, b, ρb, E2, qb, fun G3 H3 A3 => ?_⟩
    have a2 : Aft (Cl (wipe σ vs) ρi) (Cl σ2 ρa) G' H' G' H' := ⟨Same.refl _, fun _ _ h _ => h, fun _ _ _ _ h => h, fun _ h => h, fun a h => .inl (c2 a h)⟩
    have up3 := (a1'.trans a2).trans A3.aft
    have nextC : ∀ (ρc : REnv) (a : Addr), Cl (wipe σ vs) (wipeE ρc vs) a → Cl σ2 ρc a := fun ρc a h => by
      rw [← hw] at h
      exact (Cl.wipe h).1
    have bsN : ∀ b ∈ bs, ¬ Cl (wipe σ vs) ρi b := fun b hbb => by
      obtain ⟨f1, f2⟩ := hb b hbb
      cases q : H1 b with
      | none => exact absurd q f1
      | some o => exact Ai.aft.ne q fun z => f2 (c1sub b z)
    have hD3 : H3 D = some (.lst acc) := up3.keep D _ hDi nDi
    have gD3 : G3 D = none := up3.gn D _ hDi nDi gDi
    have nD3 : ¬ Cl σ2 ρb D := up3.ne hDi nDi
    cases b with
    | false =>
      simp [compL2, qa, qb] at hcl
      have e3 : EnvOk X.K fa G3 H3 (wipe σ vs) (wipeE ρb vs) := by have := A3.env.wipe vs; rwa [hw] at this
      have n3 := Ai.aft.trans up3
      exact iteF ⟨G3, wipeE ρb vs, acc, yd, rest, ⟨e3, ⟨n3.gg, n3.keep, n3.gn, n3.there, fun a z => n3.cs a (nextC ρb a z)⟩⟩, W.stb _ _ _ _ _ _ kpi up3 bsN, hD3, gD3, fun z => nD3 (nextC _ _ z), ra.mono up3.gg, hcl, hy⟩
    | true =>
    simp only [compL2, qa, qb, Option.bind_some, if_true] at hcl
    cases qs : src1 ρb with
    | none => simp [qs] at hcl
    | some s1 =>
    obtain ⟨xs1, ρ3⟩ := s1
    simp only [qs, Option.bind_some] at hcl
    cases qi : compL vs1 g1 dt1 de xs1 (wipeE ρ3 vs1) with
    | none => simp [qi] at hcl
    | some r1 =>
    obtain ⟨ys1, ρm⟩ := r1
    simp only [qi, Option.bind_some] at hcl
    cases qr : compL2 vs g dt src1 vs1 g1 dt1 de (xs.drop (i + 1)) (wipeE ρm vs) with
    | none => simp [qr] at hcl
    | some rr =>
    obtain ⟨rest2, ρn⟩ := rr
    simp [qr] at hcl
    obtain ⟨rfl, rfl⟩ := hcl
    refine iteT ⟨G3, ρb, xs1, ρ3, A3.env, qs, fun J1 Kp1 G4 H4 A4 W1 kp1 => ?_⟩
    have up4 := up3.trans A4.aft
    have hD4 : H4 D = some (.lst acc) := up4.keep D _ hDi nDi
    have gD4 : G4 D = none := up4.gn D _ hDi nDi gDi
    have nD4 : ¬ Cl σ2 ρ3 D := up4.ne hDi nDi
    have sub4 : ∀ a, Cl (wipe σ2 vs1) (wipeE ρ3 vs1) a → Cl σ2 ρ3 a := fun a h => (Cl.wipe h).1
    have wv : wipe (wipe σ2 vs1) vs = wipe σ vs := (Slots.wiped (as := vs1) ⟨wipe_length σ2 vs1, fun j h => LW.wipe_out h⟩ hv1).trans hw
    have n4 := Ai.aft.trans up4
    have At4 : At X.K fa (Cl (wipe σ vs) (wipeE (hideO ho ρ1) vs)) G1 H1 G4 H4 (wipe σ2 vs1) (wipeE ρ3 vs1) := ⟨A4.env.wipe vs1, ⟨n4.gg, n4.keep, n4.gn, n4.there, fun a z => n4.cs a (sub4 a z)⟩⟩
    refine ⟨fun j m H' => m = xs1.length - j ∧ j ≤ xs1.length ∧ ∃ (G' : Hp) (ρj : REnv) (acc : List V) (yd1 rest1 : List T),
      At X.K fa (Cl (wipe σ vs) (wipeE (hideO ho ρ1) vs)) G1 H1 G' H' (wipe σ2 vs1) ρj ∧ Kp G' H' ∧ Kp1 G' H' ∧ H' D = some (.lst acc) ∧ G' D = none ∧ ¬ Cl (wipe σ2 vs1) ρj D ∧ RepAll X.K fa G' acc (yd ++ yd1) ∧
      compL vs1 g1 dt1 de (xs1.drop j) ρj = some (rest1, ρm) ∧ yd1 ++ rest1 = ys1, ⟨xs1.length, by simp, Nat.zero_le _, G4, wipeE ρ3 vs1, acc, [], ys1, At4, W.stb _ _ _ _ _ _ kpi up4 bsN, kp1, hD4, gD4, fun z => nD4 (sub4 _ z), by simpa using ra.mono up4.gg, by simpa using qi, rfl⟩, ?_⟩
    rintro j m Hj ⟨rfl, hlej, Gj, ρj, accj, ydj, restj, Aj, kpj, kp1j, hDj, gDj, nDj, raj, hclj, hyj⟩
    by_cases hltj : j < xs1.length
    case neg =>
      obtain rfl : j = xs1.length := by omega
      simp [compL] at hclj
      obtain ⟨rfl, rfl⟩ := hclj
      rw [List.append_nil] at hyj
      subst hyj
      have e5 : EnvOk X.K fa Gj Hj (wipe σ vs) (wipeE ρj vs) := by have := Aj.env.wipe vs; rwa [wv] at this
      have n5 := Aj.aft
      have nx : ∀ a, Cl (wipe σ vs) (wipeE ρj vs) a → Cl (wipe σ2 vs1) ρj a := fun a h => by
        rw [← wv] at h
        exact (Cl.wipe h).1
      exact .inl ⟨W1.stop _ Gj Hj kp1j Aj.env.same (Nat.le_refl _), Gj, wipeE ρj vs, accj, yd ++ ydj, rest2, ⟨e5, ⟨n5.gg, n5.keep, n5.gn, n5.there, fun a z => n5.cs a (nx a z)⟩⟩, kpj, hDj, gDj, fun z => nDj (nx _ z), raj, qr, by rw [List.append_assoc]; exact hy⟩
    have exj : xs1[j]? = some xs1[j] := by simp [hltj]
    obtain ⟨goj, ylj⟩ := W1.go j Gj Hj xs1[j] kp1j Aj.env.same exj
    rw [List.drop_eq_getElem_cons hltj] at hclj
    cases qa1 : g1 xs1[j] ρj with
    | none => simp [compL, qa1] at hclj
    | some ρa1 =>
    cases qb1 : dt1 ρa1 with
    | none => simp [compL, qa1, qb1] at hclj
    | some pb1 =>
    obtain ⟨b1, ρb1⟩ := pb1
    refine .inr ⟨goj, fun H' => ∃ (G' : Hp) (ρj : REnv) (acc : List V) (yd1 rest1 : List T),
      At X.K fa (Cl (wipe σ vs) (wipeE (hideO ho ρ1) vs)) G1 H1 G' H' (wipe σ2 vs1) ρj ∧ Kp G' H' ∧ Kp1 G' H' ∧ H' D = some (.lst acc) ∧ G' D = none ∧ ¬ Cl (wipe σ2 vs1) ρj D ∧ RepAll X.K fa G' acc (yd ++ yd1) ∧
      compL vs1 g1 dt1 de (xs1.drop (j + 1)) ρj = some (rest1, ρm) ∧ yd1 ++ rest1 = ys1, fun H' h => ⟨xs1.length - (j + 1), by omega, rfl, hltj, h⟩, fun v1 H'' hv1' => ?_⟩
    obtain ⟨G'', b1a, sm1, rv1⟩ := ylj v1 H'' hv1'
    have b1' : Aft (Cl (wipe σ2 vs1) ρj) (Cl (wipe σ2 vs1) ρj) Gj Hj G'' H'' := b1a.wide fun _ h => h.elim
    have E5 : EnvOk X.K fa G'' H'' (wipe σ2 vs1) ρj := Aj.env.carry b1a sm1 fun _ _ h => h
    refine ⟨G'', ρj, xs1[j], ρa1, E5, rv1, qa1, fun σ3 E6 c6 s6 => ?_⟩
    have hw1 : wipe σ3 vs1 = wipe σ2 vs1 := (s6.wiped has1).trans (Slots.wiped (as := vs1) ⟨wipe_length σ2 vs1, fun j h => LW.wipe_out h⟩ fun _ h => h)
    refine ⟨hw1, G'', ρa1, b1, ρb1, E6, qb1, fun G7 H7 A7 => ?_⟩
    have a6 : Aft (Cl (wipe σ2 vs1) ρj) (Cl σ3 ρa1) G'' H'' G'' H'' := ⟨Same.refl _, fun _ _ h _ => h, fun _ _ _ _ h => h, fun _ h => h, fun a h => .inl (c6 a h)⟩
    have up7 := (b1'.trans a6).trans A7.aft
    have hD7 : H7 D = some (.lst accj) := up7.keep D _ hDj nDj
    have gD7 : G7 D = none := up7.gn D _ hDj nDj gDj
    have nD7 : ¬ Cl σ3 ρb1 D := up7.ne hDj nDj
    have nextC1 : ∀ (ρc : REnv) (a : Addr), Cl (wipe σ2 vs1) (wipeE ρc vs1) a → Cl σ3 ρc a := fun ρc a h => by
      rw [← hw1] at h
      exact (Cl.wipe h).1
    have nextE1 : ∀ {G H : Hp} {ρc : REnv}, EnvOk X.K fa G H σ3 ρc → EnvOk X.K fa G H (wipe σ2 vs1) (wipeE ρc vs1) := fun {G H ρc} h => by
      have := h.wipe vs1
      rwa [hw1] at this
    have narrow1 : ∀ {G' H' : Hp} {ρc : REnv}, Aft (Cl (wipe σ vs) (wipeE (hideO ho ρ1) vs)) (Cl σ3 ρc) G1 H1 G' H' → Aft (Cl (wipe σ vs) (wipeE (hideO ho ρ1) vs)) (Cl (wipe σ2 vs1) (wipeE ρc vs1)) G1 H1 G' H' := fun {G' H' ρc} h =>
      ⟨h.gg, h.keep, h.gn, h.there, fun a z => h.cs a (nextC1 ρc a z)⟩
    have outN : ∀ b ∈ bs, ¬ Cl (wipe σ2 vs1) ρj b := fun b hbb => by
      obtain ⟨f1, f2⟩ := hb b hbb
      cases q : H1 b with
      | none => exact absurd q f1
      | some o => exact Aj.aft.ne q fun z => f2 (c1sub b z)
    have inN : ∀ b ∈ ([] : List Addr), ¬ Cl (wipe σ2 vs1) ρj b := fun b hbb => by cases hbb
    cases b1 with
    | false =>
      simp [compL, qa1, qb1] at hclj
      exact iteF ⟨G7, wipeE ρb1 vs1, accj, ydj, restj, ⟨nextE1 A7.env, narrow1 (Aj.aft.trans up7)⟩, W.stb _ _ _ _ _ _ kpj up7 outN, W1.stb _ _ _ _ _ _ kp1j up7 inN, hD7, gD7, fun z => nD7 (nextC1 _ _ z), raj.mono up7.gg, hclj, hyj⟩
    | true =>
    simp only [compL, qa1, qb1, Option.bind_some, if_true] at hclj
    cases qc : de ρb1 with
    | none => simp [qc] at hclj
    | some pc =>
    obtain ⟨le, ρc⟩ := pc
    cases qt : le.tree with
    | none => simp [qc, qt] at hclj
    | some y =>
    cases qr1 : compL vs1 g1 dt1 de (xs1.drop (j + 1)) (wipeE ρc vs1) with
    | none => simp [qc, qt, qr1] at hclj
    | some rr1 =>
    simp [qc, qt, qr1] at hclj
    obtain ⟨rfl, rfl⟩ := hclj
    refine iteT ⟨G7, ρb1, le, ρc, A7.env, qc, fun v8 G8 H8 P8 => ?_⟩
    obtain ⟨G9, E9, R9, A9, sm9, _⟩ := toTree P8.env P8.rep P8.new P8.aft qt
    have up9 := up7.trans A9
    have hD9 : H8 D = some (.lst accj) := up9.keep D _ hDj nDj
    have gD9 : G9 D = none := up9.gn D _ hDj nDj gDj
    have nD9 : ¬ Cl σ3 ρc D := up9.ne hDj nDj
    have hlen : accj.length < sizeLine := by
      rw [← line_eq]
      have h1 := raj.length
      rw [← hy, ← hyj] at hz
      simp at hz h1
      omega
    have At9 : At X.K fa (Cl (wipe σ vs) (wipeE (hideO ho ρ1) vs)) G1 H1 G9 H8 (wipe σ2 vs1) (wipeE ρc vs1) := ⟨nextE1 E9, narrow1 (Aj.aft.trans up9)⟩
    refine ⟨accj, hD9, hlen, G9, wipeE ρc vs1, accj ++ [v8], ydj ++ [y], rr1.1, At9.mut hD9 gD9 (fun z => nD9 (nextC1 _ _ z)) hD, ?_, ?_, upd_same, gD9, fun z => nD9 (nextC1 _ _ z), ?_, qr1, by simpa using hyj⟩
    · exact W.stb _ _ _ _ _ _ (W.stb _ _ _ _ _ _ kpj up9 outN) (mut_aft hD9) nbD
    · exact W1.stb _ _ _ _ _ _ (W1.stb _ _ _ _ _ _ kp1j up9 inN) (mut_aft hD9) fun b hbb => by cases hbb
    · rw [← List.append_assoc]; exact (raj.mono up9.gg).append (.one R9)
  have pg : ∀ (s : Shared) (H : Hp) (C : Addr) (cl : List (Str × Addr)) (fp : List Addr), PG (X.blk s H scope (compEnvC scope cl C X.env) fp) tg (tDG X.K fa as g) := hg
  have pt : ∀ (s : Shared) (H : Hp) (C : Addr) (cl : List (Str × Addr)) (fp : List Addr), PTs (X.blk s H scope (compEnvC scope cl C X.env) fp) ifs (tDT X.K fa dt) := ht
  have qi : ∀ (s : Shared) (H : Hp) (C : Addr) (cl : List (Str × Addr)) (fp : List Addr), PI (X.blk s H scope (compEnvC scope cl C X.env) fp) tg1 iter1 (tDI X.K fa src1) := hi1
  have qg : ∀ (s : Shared) (H : Hp) (C : Addr) (cl : List (Str × Addr)) (fp : List Addr), PG (X.blk s H scope (compEnvC scope cl C X.env) fp) tg1 (tDG X.K fa as1 g1) := hg1
  have qt : ∀ (s : Shared) (H : Hp) (C : Addr) (cl : List (Str × Addr)) (fp : List Addr), PTs (X.blk s H scope (compEnvC scope cl C X.env) fp) ifs1 (tDT X.K fa dt1) := ht1
  have pe : ∀ (s : Shared) (H : Hp) (C : Addr) (cl : List (Str × Addr)) (fp : List Addr), PE (X.blk s H scope (compEnvC scope cl C X.env) fp) elt (tD X.K fa de) := fun s H C cl fp => (he s H C cl fp).pe
  exact ⟨⟨fun pins s σ H Q I h => (pe_lc2 hc hN pi ok hv1 pg pt qi qg qt pe hs hs1).run pins s σ H Q I (key σ H Q h)⟩, wi, pi, key⟩
/-- as a statement of its own: x = [..] -/
theorem SS.setC2 {i : Nat} {y : Str} {py : Pos} {elt tg iter tg1 iter1 : Expr} {ifs ifs1 : List Expr} {scope : Scope} {own : List (Str × Nat)} {vs vs1 : List Nat} {pos spos : Pos} {src : DenI} {src1 : DenI0} {as as1 : List Nat} {g g1 : DenG} {dt dt1 : DenT} {de : Den} (hvs : own.map (·.2) = vs) (hc : X.calm = true) (hN : X.N.Nodup) (hy : X.N[i]? = some y) (hyl : X.env.scope.names.lookup y = some .local)
    (hsw : swapsWith (.ListComp elt [⟨tg, iter, ifs, 0⟩, ⟨tg1, iter1, ifs1, 0⟩] scope pos) (some (.Name y py)) spos.line X.env = pure true) (hi : SI X fa tg iter src)
    (ok : BlkOk X.N X.env.scope scope own) (has : ∀ i ∈ as, i ∈ vs) (hv1 : ∀ i ∈ vs1, i ∈ vs) (has1 : ∀ i ∈ as1, i ∈ vs1)
    (hg : ∀ (s : Shared) (H : Hp) (C : Addr) (cl : List (Str × Addr)) (fp : List Addr), SG (X.blk s H scope (compEnvC scope cl C X.env) fp) fa tg as g)
    (ht : ∀ (s : Shared) (H : Hp) (C : Addr) (cl : List (Str × Addr)) (fp : List Addr), STs (X.blk s H scope (compEnvC scope cl C X.env) fp) fa ifs dt)
    (hi1 : ∀ (s : Shared) (H : Hp) (C : Addr) (cl : List (Str × Addr)) (fp : List Addr), SI0 (X.blk s H scope (compEnvC scope cl C X.env) fp) fa tg1 iter1 src1)
    (hg1 : ∀ (s : Shared) (H : Hp) (C : Addr) (cl : List (Str × Addr)) (fp : List Addr), SG (X.blk s H scope (compEnvC scope cl C X.env) fp) fa tg1 as1 g1)
    (ht1 : ∀ (s : Shared) (H : Hp) (C : Addr) (cl : List (Str × Addr)) (fp : List Addr), STs (X.blk s H scope (compEnvC scope cl C X.env) fp) fa ifs1 dt1)
    (he : ∀ (s : Shared) (H : Hp) (C : Addr) (cl : List (Str × Addr)) (fp : List Addr), SE (X.blk s H scope (compEnvC scope cl C X.env) fp) fa elt de) (hs : ∀ x, foldedSetIterable iter X.env x = pure x) (hs1 : ∀ env x, foldedSetIterable iter1 env x = pure x) :
    SS X fa (.Assign [.Name y py] (.ListComp elt [⟨tg, iter, ifs, 0⟩, ⟨tg1, iter1, ifs1, 0⟩] scope pos) spos) [i] (dSet i (compD2 src vs g dt src1 vs1 g1 dt1 de)) := by
  obtain ⟨_, wi, pi, key⟩ := SE.comp2 (pos := pos) hvs hc hN hi ok has hv1 has1 hg ht hi1 hg1 ht1 he hs hs1
  subst hvs
  have pg : ∀ (s : Shared) (H : Hp) (C : Addr) (cl : List (Str × Addr)) (fp : List Addr), PG (X.blk s H scope (compEnvC scope cl C X.env) fp) tg (tDG X.K fa as g) := hg
  have pt : ∀ (s : Shared) (H : Hp) (C : Addr) (cl : List (Str × Addr)) (fp : List Addr), PTs (X.blk s H scope (compEnvC scope cl C X.env) fp) ifs (tDT X.K fa dt) := ht
  have qi : ∀ (s : Shared) (H : Hp) (C : Addr) (cl : List (Str × Addr)) (fp : List Addr), PI (X.blk s H scope (compEnvC scope cl C X.env) fp) tg1 iter1 (tDI X.K fa src1) := hi1
  have qg : ∀ (s : Shared) (H : Hp) (C : Addr) (cl : List (Str × Addr)) (fp : List Addr), PG (X.blk s H scope (compEnvC scope cl C X.env) fp) tg1 (tDG X.K fa as1 g1) := hg1
  have qt : ∀ (s : Shared) (H : Hp) (C : Addr) (cl : List (Str × Addr)) (fp : List Addr), PTs (X.blk s H scope (compEnvC scope cl C X.env) fp) ifs1 (tDT X.K fa dt1) := ht1
  have pe : ∀ (s : Shared) (H : Hp) (C : Addr) (cl : List (Str × Addr)) (fp : List Addr), PE (X.blk s H scope (compEnvC scope cl C X.env) fp) elt (tD X.K fa de) := fun s H C cl fp => (he s H C cl fp).pe
  exact ⟨_, ps_setLc2 hc hN hy hyl hsw pi ok hv1 pg pt qi qg qt pe hs hs1, set_read fun σ G H ρ l ρ' Q E hd k => key σ H Q ⟨G, ρ, l, ρ', E, hd, k⟩⟩
end
end LW
namespace LW
open PySem PySem.Spec PyProof.Rows L2

/-! ### sorted(xs), xs a list of tuples of ints, of any lengths -/
/-- by the first place at which they differ; a shorter one first -/
def lexL : List Int → List Int → Bool
  | [], [] => false
  | [], _ :: _ => true
  | _ :: _, [] => false
  | x :: xs, y :: ys => if x = y then lexL xs ys else decide (x < y)
theorem lexL_self : ∀ a, lexL a a = false
  | [] => rfl
  | x :: xs => by simp [lexL, lexL_self xs]
theorem lexL_asym : ∀ a b, lexL a b = true → lexL b a = false
  | [], [], h => by cases h
  | [], _ :: _, _ => rfl
  | _ :: _, [], h => by cases h
  | x :: xs, y :: ys, h => by
    by_cases e : x = y
    · subst e
      simp [lexL] at h ⊢
      exact lexL_asym xs ys h
    · have e2 : ¬ y = x := fun z => e z.symm
      simp [lexL, e, e2] at h ⊢
      omega
theorem lexL_eq : ∀ a b, lexL a b = false → lexL b a = false → a = b
  | [], [], _, _ => rfl
  | [], _ :: _, h, _ => by cases h
  | _ :: _, [], _, h => by cases h
  | x :: xs, y :: ys, h, h' => by
    by_cases e : x = y
    · subst e
      simp [lexL] at h h'
      rw [lexL_eq xs ys h h']
    · have e2 : ¬ y = x := fun z => e z.symm
      simp [lexL, e, e2] at h h'
      omega
theorem lexL_tr : ∀ a b c, lexL b a = false → lexL c b = false → lexL c a = false
  | [], [], [], _, _ => rfl
  | [], [], _ :: _, _, _ => rfl
  | [], _ :: _, [], _, h => by cases h
  | [], _ :: _, _ :: _, _, _ => rfl
  | _ :: _, [], _, h, _ => by cases h
  | _ :: _, _ :: _, [], _, h => by cases h
  | x :: xs, y :: ys, z :: zs, h, h' => by
    by_cases e1 : y = x
    · subst e1
      by_cases e2 : z = y
      · subst e2
        simp [lexL] at h h' ⊢
        exact lexL_tr xs ys zs h h'
      · simpa [lexL, e2] using h'
    · by_cases e2 : z = y
      · subst e2
        simpa [lexL, e1] using h
      · simp [lexL, e1] at h
        simp [lexL, e2] at h'
        have : ¬ z = x := by omega
        simp [lexL, this]
        omega
theorem swo_lexL {α : Type} (k : α → List Int) : SrtO.Swo fun v u => lexL (k v) (k u) := ⟨fun x y h => lexL_asym _ _ h, fun x y z h1 h2 => lexL_tr _ _ _ h1 h2⟩
def lexR : List Int → List Int → Bool → Bool
  | [], _, f => f
  | _ :: _, [], f => f
  | x :: xs, y :: ys, f => if x = y then lexR xs ys f else decide (x < y)
theorem lexR_L : ∀ xs ys, lexR xs ys (decide (xs.length < ys.length)) = lexL xs ys
  | [], [] => rfl
  | [], _ :: _ => by simp [lexR, lexL]
  | _ :: _, [] => by simp [lexR, lexL]
  | x :: xs, y :: ys => by
    have := lexR_L xs ys
    simp only [lexR, lexL, List.length_cons, Nat.add_lt_add_iff_right, this]
section
variable {P : Program} {w : World} {A : Around} {E : Value → Shared → Prop} {s : Shared}
theorem kat_ints {b fin : Bool} {Q : Bool → Shared → Prop} : ∀ {us vs : List Value} {ks ls : List Int}, IntsAre us ks → IntsAre vs ls → ∀ i, Q (lexR ks ls fin) s → PySem.W.KatLex P w A b fin Q (us.zip vs) i s
  | _, _, [], _, .nil, _, i, h => PySem.W.kat_nil h
  | _, _, _ :: _, [], .cons _ _ _, .nil, i, h => PySem.W.kat_nil h
  | _, _, x :: ks, y :: ls, .cons _ t r, .cons _ u q, i, h => by
    refine PySem.W.kat_cons (SeqAt.EqAt.int_int x t y u P w _ _ (PySem.W.kat_go (fun e => ?_) (fun e => ?_)))
    · have e : x = y := by simpa using e
      exact PySem.W.kat_yes (kat_ints r q (i + 1) (by simpa [lexR, e] using h))
    · have e : ¬ x = y := by simpa using e
      exact PySem.W.kat_no (TS.oneLt_ints _ (by simpa [lexR, e] using h))
theorem tups_cmp {vs : List Value} {k : Value → List Int} (hp : ∀ v ∈ vs, TS.TupInts s.heap v (k v)) : SrtO.Cmp P w A s (tuples' true) (fun p => p.1 ∈ vs) (SrtO.lt2 fun v u => lexL (k v) (k u)) := by
  intro p q hm hm'
  have ⟨a, xs, e, ⟨o, ho, hc, n, hd⟩, hx⟩ := hp _ hm
  have ⟨a', ys, e', ⟨o', ho', hc', n', hd'⟩, hy⟩ := hp _ hm'
  show wpAny (model P w) A (keyLt' (tuples' true) p.1 q.1) (fun r s' => s' = s ∧ r = lexL (k p.1) (k q.1)) (fun _ _ => False) s
  have l1 := hx.length
  have l2 := hy.length
  rw [Array.length_toList] at l1 l2
  generalize k p.1 = kp at *
  generalize k q.1 = kq at *
  rw [e, e']
  refine PySem.W.kat_lt ho hd ho' hd' (kat_ints hx hy 0 ⟨rfl, ?_⟩)
  rw [l1, l2, lexR_L]
theorem tupI_keep {h h' : Heap} {v : Value} {ks : List Int} (x : TS.TupInts h v ks) (kp : ∀ b o, h.get? b = some o → o.cls = .type "tuple" → h'.get? b = some o) : TS.TupInts h' v ks := by
  obtain ⟨a, xs, e, ⟨o, ho, hc, n, hd⟩, hx⟩ := x
  exact ⟨a, xs, e, ⟨o, kp a o ho hc, hc, n, hd⟩, hx⟩
theorem tup_firsts {h : Heap} {k : Value → List Int} : ∀ vs : List Value, (∀ v ∈ vs, TS.TupInts h v (k v) ∧ k v ≠ []) → ∃ fs, PySem.W.KatTups h vs fs ∧ fs.length = vs.length ∧ ∀ f, f ∈ fs → ∃ n t, f = Value.int n t
  | [], _ => ⟨[], PySem.W.KatTups.nil, rfl, fun f hf => by simp at hf⟩
  | v :: vs, x => by
    obtain ⟨fs, h1, hl, hi⟩ := tup_firsts vs fun u hu => x u (List.mem_cons_of_mem _ hu)
    obtain ⟨⟨a, xs, e, ⟨o, ho, hc, n, hd⟩, hx⟩, hn⟩ := x v List.mem_cons_self
    subst e
    have hl2 := hx.length
    cases q : xs.toList with
    | nil =>
      rw [q] at hl2
      exact absurd (List.length_eq_zero_iff.mp hl2.symm) hn
    | cons y ys =>
      obtain ⟨m, t, hy⟩ := hx.all y (by rw [q]; exact List.mem_cons_self)
      have e0 : xs[0]? = some y := by rw [← Array.getElem?_toList, q]; rfl
      refine ⟨y :: fs, PySem.W.KatTups.cons ho hc hd e0 h1, by simp [hl], fun f hf => ?_⟩
      rcases List.mem_cons.mp hf with rfl | hf
      · exact ⟨m, t, hy⟩
      · exact hi f hf
theorem tups_sortable {a : Addr} {vs : List Value} {k : Value → List Int} (h0 : 0 < vs.length) (hp : ∀ v ∈ vs, TS.TupInts s.heap v (k v) ∧ k v ≠ []) (ha : ∀ o, s.heap.get? a = some o → o.cls ≠ .type "tuple") : SrtO.SortableO P w A s a vs fun v u => lexL (k v) (k u) := by
  intro h' keep
  have hp' : ∀ v ∈ vs, TS.TupInts h' v (k v) ∧ k v ≠ [] := fun v hm => ⟨tupI_keep (hp v hm).1 fun b o e c => keep b o (fun z => by subst z; exact ha o e c) e, (hp v hm).2⟩
  obtain ⟨fs, h1, h2, h3⟩ := tup_firsts vs hp'
  refine ⟨tuples' true, fun Q E hq => ?_, tups_cmp fun v hv => (hp' v hv).1⟩
  refine PySem.W.kat_kind (T := .type "int") h1 (by omega) (fun f hm => ?_) (by rfl) ?_
  · obtain ⟨x, t, rfl⟩ := h3 f hm
    exact PySem.W.Looks.now
  · rw [show (Value.type "int" != Value.type "tuple") = true by first | decide +kernel | rfl | decide]
    exact hq
theorem sorted_tups {l : Addr} {vs : List Value} {k : Value → List Int} {Q : Value → Shared → Prop} (hl : s.heap.IsList l vs.toArray) (hz : vs.length ≤ sizeLine) (hp : ∀ v ∈ vs, TS.TupInts s.heap v (k v) ∧ k v ≠ [])
    (h : ∀ (h' : Heap) (d : Addr) (out : List Value), SrtO.Srtd (fun v u => lexL (k v) (k u)) out → SrtO.Stb (fun v u => lexL (k v) (k u)) out vs → (∀ b o, s.heap.get? b = some o → h'.get? b = some o) → s.heap.objs.size ≤ d → (∃ n, h'.get? d = some (seqObj "list" out.toArray n)) → Q (.ref d) { s with heap := h' }) :
    wpAny (model P w) A (call (.builtin "sorted") [.ref l]) Q E s := by
  refine SrtO.sorted_ord (swo_lexL k) hl hz (fun h2 h₁ a ha kk => ?_) fun out hs hb => ?_
  · refine tups_sortable (s := { s with heap := h₁ }) (by omega) (fun v hm => ⟨tupI_keep (hp v hm).1 fun b o e _ => (kk b o e).2, (hp v hm).2⟩) fun o e => ?_
    have e' : some o = some (seqObj "list" vs.toArray 0) := e.symm.trans ha
    cases e'
    intro c
    exact absurd (Value.type.inj c) (by decide)
  · exact h _ _ out hs hb (fun b o e => sortedAll_old e) (Nat.le_succ _) (sortedAll_at s.heap vs out.toArray)
end
/-- the sorted list -/
def insL (x : List Int) : List (List Int) → List (List Int)
  | [] => [x]
  | y :: ys => if lexL y x then y :: insL x ys else x :: y :: ys
def sortL : List (List Int) → List (List Int)
  | [] => []
  | x :: xs => insL x (sortL xs)
abbrev leL (a b : List Int) : Prop := lexL b a = false
theorem insL_perm (x : List Int) : ∀ ys, (insL x ys).Perm (x :: ys)
  | [] => .refl _
  | y :: ys => by
    unfold insL
    split
    · exact ((insL_perm x ys).cons y).trans (List.Perm.swap x y ys)
    · exact .refl _
theorem sortL_perm : ∀ xs, (sortL xs).Perm xs
  | [] => .refl _
  | x :: xs => (insL_perm x _).trans ((sortL_perm xs).cons x)
theorem insL_sorted (x : List Int) : ∀ {ys : List (List Int)}, ys.Pairwise leL → (insL x ys).Pairwise leL
  | [], _ => by simp [insL]
  | y :: ys, h => by
    have ⟨h1, h2⟩ := List.pairwise_cons.mp h
    unfold insL
    split
    · rename_i hx
      refine List.pairwise_cons.mpr ⟨fun z hz => ?_, insL_sorted x h2⟩
      have m := (insL_perm x ys).mem_iff.mp hz
      rcases List.mem_cons.mp m with e | e
      · rw [e]; exact lexL_asym _ _ hx
      · exact h1 z e
    · rename_i hx
      have hx : leL x y := Bool.not_eq_true _ |>.mp hx
      refine List.pairwise_cons.mpr ⟨fun z hz => ?_, h⟩
      rcases List.mem_cons.mp hz with e | e
      · rw [e]; exact hx
      · exact lexL_tr x y z hx (h1 z e)
theorem sortL_sorted : ∀ xs, (sortL xs).Pairwise leL
  | [] => .nil
  | x :: xs => insL_sorted x (sortL_sorted xs)
theorem leL_unique : ∀ {xs ys : List (List Int)}, xs.Perm ys → xs.Pairwise leL → ys.Pairwise leL → xs = ys
  | [], ys, p, _, _ => by rw [List.nil_perm.mp p]
  | x :: xs, [], p, _, _ => by have := p.length_eq; simp at this
  | x :: xs, y :: ys, p, h1, h2 => by
    have ⟨a1, a2⟩ := List.pairwise_cons.mp h1
    have ⟨b1, b2⟩ := List.pairwise_cons.mp h2
    have e : x = y := by
      rcases List.mem_cons.mp (p.mem_iff.mp (List.mem_cons_self (a := x) (l := xs))) with z | z
      · exact z
      · rcases List.mem_cons.mp (p.mem_iff.mpr (List.mem_cons_self (a := y) (l := ys))) with w | w
        · exact w.symm
        · exact lexL_eq _ _ (b1 x z) (a1 y w)
    subst e
    rw [leL_unique (List.Perm.cons_inv p) a2 b2]
def TpI (K : PySem.W.Frag) (H : Hp) (x : V) (p : List Int) : Prop := ∃ t, x = V.ref t ∧ SqT K H t (p.map V.int)
def rSortedTT (K : PySem.W.Frag) : List V → Hp → VK → Prop := fun vs H Q => ∃ (a : Addr) (xs : List V) (ps : List (List Int)), vs = [V.ref a] ∧ SqL K H a xs ∧ xs.length = ps.length ∧ (∀ z ∈ xs.zip ps, TpI K H z.1 z.2) ∧ (∀ p ∈ ps, p ≠ []) ∧
  ∀ ys p, ys.length = ps.length → (∀ z ∈ ys.zip (sortL ps), z ∈ xs.zip ps) → H p = none → Q (.ref p) (upd H p (.lst ys))
theorem map_int_inj {a b : List Int} (h : a.map V.int = b.map V.int) : a = b := by
  induction a generalizing b with
  | nil => cases b <;> simp_all
  | cons x a ih =>
    cases b with
    | nil => simp at h
    | cons y b => simp only [List.map_cons, List.cons.injEq, V.int.injEq] at h; rw [h.1, ih h.2]
section
variable {X : Cx}
open Classical in
theorem cr_sortedTT : CallR X (.builtin "sorted") (rSortedTT X.K) := by
  intro pins s σ H vs us Q I r h
  obtain ⟨a, xs, ps, rfl, hs, hlen, hz0, hne, q⟩ := h
  let k : V → List Int := fun v => if h : ∃ p : List Int, TpI X.K H v p then h.choose else []
  have kz : ∀ v p, TpI X.K H v p → k v = p := fun v p hp => by
    have hex : ∃ p : List Int, TpI X.K H v p := ⟨p, hp⟩
    have e1 : k v = hex.choose := dif_pos hex
    obtain ⟨t, rfl, st⟩ := hp
    obtain ⟨t', et, st'⟩ := hex.choose_spec
    cases et
    rw [e1]
    exact (map_int_inj (I.tuple_inj st st')).symm
  have hmap : ps = xs.map k := by
    refine List.ext_getElem? fun i => ?_
    rw [List.getElem?_map]
    cases e1 : xs[i]? with
    | none => rw [List.getElem?_eq_none_iff] at e1; rw [Option.map_none, List.getElem?_eq_none_iff]; omega
    | some v =>
      have hi2 : i < ps.length := by have := (List.getElem?_eq_some_iff.mp e1).1; omega
      have e2 : ps[i]? = some ps[i] := List.getElem?_eq_getElem hi2
      have hm : (v, ps[i]) ∈ xs.zip ps := List.mem_of_getElem? (List.getElem?_zip_eq_some.mpr ⟨e1, e2⟩)
      rw [e2, Option.map_some, kz v _ (hz0 _ hm)]
  have hx : ∀ x ∈ xs, ∃ t, x = V.ref t ∧ SqT X.K H t ((k x).map V.int) ∧ k x ≠ [] := fun x m => by
    obtain ⟨i, hi⟩ := List.getElem?_of_mem m
    have hp : ps[i]? = some (k x) := by rw [hmap, List.getElem?_map, hi]; rfl
    have hm : (x, k x) ∈ xs.zip ps := List.mem_of_getElem? (i := i) (List.getElem?_zip_eq_some.mpr ⟨hi, hp⟩)
    obtain ⟨t, e1, e2⟩ := hz0 _ hm
    exact ⟨t, e1, e2, hne _ (List.mem_of_getElem? hp)⟩
  obtain ⟨its, rv, hl, hz⟩ := I.list hs
  rw [Vals.ref1 r]
  obtain ⟨e1, e2⟩ := refs_back rv fun x m => let ⟨t, e, _⟩ := hx x m; ⟨t, e⟩
  refine sorted_tups (k := fun u => k (backV u)) hl.isList (by rw [← rv.length]; exact hz) (fun v hv => ?_) fun h' d out h1 h2 kp hd hn => ?_
  · obtain ⟨t, rfl⟩ := e2 v hv
    obtain ⟨t', e, ht, hn⟩ := hx (V.ref t) (by rw [e1]; exact List.mem_map.mpr ⟨_, hv, rfl⟩)
    cases e
    exact ⟨tupI_raw I ht, hn⟩
  · have h3 : ∀ u ∈ out, ∃ a, u = Value.ref a := fun u hu => e2 u (h2.perm.mem_iff.mp hu)
    obtain ⟨n, hn⟩ := hn
    have hb : SrtO.Stb (fun v u => lexL (k v) (k u)) (out.map backV) xs := by
      rw [e1]
      exact SrtO.Stb.map (swo_lexL k) backV h2
    have hsr : SrtO.Srtd (fun v u => lexL (k v) (k u)) (out.map backV) := SrtO.srtd_map h1
    have hk : (out.map backV).map k = sortL ps := leL_unique (((hb.perm.map k).trans (by rw [hmap])).trans (sortL_perm ps).symm) (List.pairwise_map.mpr hsr) (sortL_sorted ps)
    refine ⟨.ref d, upd H d (.lst (out.map backV)), I.laid (t' := s.toks) kp hd ⟨by rw [hb.len]; exact hz, out, n, vals_back h3, hn⟩, rfl, q _ d (by rw [hb.len]; exact hlen) (fun z hz => ?_) (I.hok.fresh hd)⟩
    rw [← hk] at hz
    obtain ⟨i, hi⟩ := List.getElem?_of_mem hz
    obtain ⟨f1, f2⟩ := List.getElem?_zip_eq_some.mp hi
    rw [List.getElem?_map, f1, Option.map_some] at f2
    have f2 := Option.some.inj f2
    obtain ⟨j, hj⟩ := List.getElem?_of_mem (hb.perm.mem_iff.mp (List.mem_of_getElem? f1))
    refine List.mem_of_getElem? (i := j) (List.getElem?_zip_eq_some.mpr ⟨hj, ?_⟩)
    rw [hmap, List.getElem?_map, hj, Option.map_some, f2]
end
def asTups : List T → Option (List (List Int))
  | [] => some []
  | .tup xs :: ts => if xs.isEmpty then none else (asInts xs).bind fun ns => (asTups ts).map fun ps => ns :: ps
  | _ => none
def tupT (ns : List Int) : T := .tup (ns.map T.int)
theorem asTups_map : ∀ ps : List (List Int), (∀ p ∈ ps, p ≠ []) → asTups (ps.map tupT) = some ps
  | [], _ => rfl
  | p :: ps, h => by
    have e1 : asInts (p.map T.int) = some p := by
      have := asInts_f (fun x : Int => x) p
      simpa using this
    have e2 : (p.map T.int).isEmpty = false := by
      have := h p List.mem_cons_self
      cases p <;> simp_all
    simp only [List.map_cons, tupT, asTups, e1, e2]
    have := asTups_map ps fun q hq => h q (List.mem_cons_of_mem _ hq)
    simp [show asTups (ps.map tupT) = some ps from this]
theorem asTups_inv : ∀ {xs : List T} {ps : List (List Int)}, asTups xs = some ps → xs = ps.map tupT ∧ ∀ p ∈ ps, p ≠ []
  | [], ps, h => by cases h; exact ⟨rfl, fun p hp => by cases hp⟩
  | x :: xs, ps, h => by
    unfold asTups at h
    split at h
    · rename_i e; cases e
    · rename_i zs ys e
      cases e
      split at h
      · cases h
      · rename_i hne
        cases q1 : asInts zs with
        | none => simp [q1] at h
        | some ns =>
          cases q : asTups xs with
          | none => simp [q1, q] at h
          | some qs =>
            simp [q1, q] at h
            subst h
            have ⟨f1, f2⟩ := asTups_inv q
            have f3 := asInts_inv q1
            subst f3
            refine ⟨by rw [f1]; rfl, fun p hp => ?_⟩
            rcases List.mem_cons.mp hp with rfl | hp
            · intro z; subst z; simp at hne
            · exact f2 p hp
    · cases h
theorem tupT_rep {K : PySem.W.Frag} {fa : Nat → Addr} {G : Hp} {v : V} {p : List Int} (r : Rep K fa G v (tupT p)) : TpI K G v p := by
  cases (show Rep K fa G v (.tup (p.map T.int)) from r) with
  | tup s a =>
    rw [RepAll.ints a] at s
    exact ⟨_, rfl, .of s⟩
def gSortTT (ρ : REnv) (l : L) : Option L := ((l.lview ρ).bind asTups).map fun ps => .own (.lst ((sortL ps).map tupT))
theorem unt_sortTT {K : PySem.W.Frag} {fa : Nat → Addr} : UnT K fa (fun x H Q => rSortedTT K [x] H Q) gSortTT := by
  intro C0 G0 H0 G H σ ρ v1 l1 l Q O e k
  cases q : l1.lview ρ with
  | none => simp [gSortTT, q] at e
  | some xs =>
    cases q1 : asTups xs with
    | none => simp [gSortTT, q, q1] at e
    | some ps =>
      simp [gSortTT, q, q1] at e
      subst e
      have ⟨f1, f2⟩ := asTups_inv q1
      subst f1
      obtain ⟨a, ws, rfl, hp, rp⟩ := lview_ok O.env O.r1 q
      have hl : ws.length = ps.length := by rw [rp.length, List.length_map]
      have zr := RepAll.zip_to rp
      rw [zip_mapT] at zr
      refine ⟨a, ws, ps, rfl, .of hp, hl, fun z hz => ?_, f2, fun ys p hly hzy hn => k _ _ _ (O.toAt.lstR hn (RepAll.zip_of (by rw [List.length_map, (sortL_perm ps).length_eq]; exact hly) ?_))⟩
      · obtain ⟨t, e1, e2⟩ := tupT_rep (zr _ (List.mem_map.mpr ⟨z, hz, rfl⟩))
        exact ⟨t, e1, same_sqT O.env.same e2⟩
      · rw [zip_mapT]
        intro z hz
        obtain ⟨w, hw, rfl⟩ := List.mem_map.mp hz
        exact zr _ (List.mem_map.mpr ⟨w, hzy w hw, rfl⟩)
section
variable {X : Cx} {fa : Nat → Addr} {e : Expr} {pos p : Pos} {d : Den}
theorem SE.sortTT (hg : Gl X "sorted") (hm : X.mg "sorted" = none) (h : SE X fa e d) (he : starEach (e :: []) X.env = (false, eval e X.env) :: starEach [] X.env) : SE X fa (.Call (.Name "sorted" p) [e] [] pos) (den1 gSortTT d) :=
  SE.bi1 cr_sortedTT hg hm PyProof.Rows.boot_sorted h unt_sortTT (by decide) (by decide) he
end
end LW
namespace LW
open PySem
open L2 (atI ixN)

/-! ### what the laws share: draws, likeness -/
abbrev ii (ns : List Int) : List T := ns.map T.int
def dDraw : DenS := (dSeq (dIfS (dAnd (dBl (den2 (gB gEq) (den2 gIx (gVar 0) (gC (.int 2))) (gC (.int 0)))) (dBl (den2 (gB gLt) (den2 gIx (gVar 0) (gC (.int 1))) (den1 gLen (den2 gIx (gVar 0) (gC (.int 0))))))) (dSeq (dSet 2 (den1 gAbs (den1 gInt (den2 gIx (den2 gIx (gVar 0) (gC (.int 0))) (den2 gIx (gVar 0) (gC (.int 1)))))))
  (dSeq (dAugS 0 gIAdd (gC (.int 1)) (gC (.int 1)))
  (dIfS (dBl (den2 (gB gGe) (gVar 2) (den2 gPow (gC (.int 10)) (gC (.int 18))))) (dAsg (gVar 2) (gSubT 0 (gC (.int 2)))) (dAsg (den2 gMod (den1 gInt (den2 gAdd (den2 gAdd (den2 gMul (den2 gIx (gVar 0) (gC (.int 3))) (gC (.int 48271))) (den2 gMul (gVar 2) (gC (.int 69621)))) (den2 gIx (gVar 0) (gC (.int 1))))) (gC (.int 2147483647))) (gSubT 0 (gC (.int 3))))))) dNx)
  (dSeq (dIfS (dBl (den2 (gB gGt) (den2 gIx (gVar 0) (gC (.int 2))) (gC (.int 0)))) (dSeq (dSet 3 (den2 gMod (den1 gInt (den2 gIx (gVar 0) (gC (.int 2)))) (gVar 1)))
  (dSeq (dAsg (den2 gDiv (den2 gIx (gVar 0) (gC (.int 2))) (gVar 1)) (gSubT 0 (gC (.int 2))))
  (dRet (gVar 3)))) dNx)
  (dSeq (dAsg (den2 gMod (den1 gInt (den2 gAdd (den2 gMul (den2 gIx (gVar 0) (gC (.int 3))) (gC (.int 16807))) (gC (.int 12345)))) (gC (.int 2147483647))) (gSubT 0 (gC (.int 3))))
  (dSeq (dSet 4 (den2 gMod (den1 gInt (den2 gAdd (den2 gMul (den2 gIx (gVar 0) (gC (.int 3))) (den2 gIx (gVar 0) (gC (.int 3)))) (den2 gIx (gVar 0) (gC (.int 3))))) (gC (.int 2147483629))))
  (dRet (den2 gMod (den2 gDiv (gVar 4) (gC (.int 11))) (gVar 1)))))))
def gDraw : List T → List T → Option (L × List T) := bodyF 2 5 [2, 3, 4] dDraw
def dAlike (fr : List T → Option L) : DenS := (dSeq (dIfS (dOr (dTru (den1 (gIsi "list") (gVar 1))) (dTru (den1 (gIsi "tuple") (gVar 1)))) (dSeq (dIfS (dOr (dBl (den2 (gB gNe) (den1 (gIsi "list") (gVar 0)) (den1 (gIsi "list") (gVar 1)))) (dBl (den2 (gB gNe) (den1 (gIsi "tuple") (gVar 0)) (den1 (gIsi "tuple") (gVar 1))))) (dRet (gC (.bl false))) dNx)
  (dSeq (dIfS (dBl (den2 (gB gNe) (den1 gLen (gVar 0)) (den1 gLen (gVar 1)))) (dRet (gC (.bl false))) dNx)
  (dRet (den2 (gB gEq) (den1 gLen (compD (iRange1 (dCons (den1 gLen (gVar 1)) dNil)) [2] (gNameT 2) (dNot (dTru (dCallP 2 fr (dCons (den2 gIx (gVar 0) (gVar 2)) (dCons (den2 gIx (gVar 1) (gVar 2)) dNil))))) (gVar 2))) (gC (.int 0)))))) dNx)
  (dSeq (dIfS (dBl (den2 (gB gIs) (gVar 1) (gC .non))) (dRet (den2 (gB gIs) (gVar 0) (gC .non))) dNx)
  (dSeq (dIfS (dTru (den1 (gIsi "bool") (gVar 1))) (dRet (dAndV (den1 (gIsi "bool") (gVar 0)) (den2 (gB gEq) (gVar 0) (gVar 1)))) dNx)
  (dSeq (dIfS (dTru (den1 (gIsi "int") (gVar 1))) (dRet (dAndV (den1 (gIsi "int") (gVar 0)) (dAndV (dNotV (den1 (gIsi "bool") (gVar 0))) (den2 (gB gEq) (gVar 0) (gVar 1))))) dNx)
  (dRet (dAndV (den1 (gIsi "str") (gVar 0)) (den2 (gB gEq) (gVar 0) (gVar 1))))))))
def fAlike : Nat → List T → Option L
  | 0 => fun _ => none
  | q + 1 => bodyP 2 3 (dAlike (fAlike q))


/-! ### _law_alike of a value and itself -/
mutual
/-- ints, None, lists and tuples of such -/
def okT : T → Bool
  | .int _ => true
  | .non => true
  | .bl _ => true
  | .lst xs => okTs xs && decide (xs.length < 10000)
  | .tup xs => okTs xs && decide (xs.length < 10000)
  | _ => false
def okTs : List T → Bool
  | [] => true
  | x :: xs => okT x && okTs xs
end
theorem okTs_mem : ∀ {xs : List T} {x : T}, okTs xs = true → x ∈ xs → okT x = true
  | y :: ys, x, h, hx => by
    simp only [okTs, Bool.and_eq_true] at h
    rcases List.mem_cons.mp hx with rfl | hx
    · exact h.1
    · exact okTs_mem h.2 hx
theorem deps_mem : ∀ {xs : List T} {x : T}, x ∈ xs → x.dep ≤ T.deps xs
  | y :: ys, x, hx => by
    simp only [T.deps]
    rcases List.mem_cons.mp hx with rfl | hx
    · omega
    · have := deps_mem hx; omega
/-- the part for lists and tuples -/
theorem alike_seq {fr : List T → Option L} {x : T} {xs : List T} (hx : x = .lst xs ∨ x = .tup xs) (hz : xs.length < 10000) (hfr : ∀ y ∈ xs, fr [y, y] = some (.t (.bl true))) :
    bodyP 2 3 (dAlike fr) [x, x] = some (.t (.bl true)) := by
  let E (z : L) : REnv := [.t x, .t x, z]
  have src : den1 gLen (gVar 1) (E .un) = some (.t (.int xs.length), E .un) := by
    rcases hx with rfl | rfl
    · exact den1_eq (l1 := .t (.lst xs)) (ρ1 := E .un) rfl rfl
    · exact den1_eq (l1 := .t (.tup xs)) (ρ1 := E .un) rfl rfl
  have src0 : den1 gLen (gVar 0) (E .un) = some (.t (.int xs.length), E .un) := by
    rcases hx with rfl | rfl
    · exact den1_eq (l1 := .t (.lst xs)) (ρ1 := E .un) rfl rfl
    · exact den1_eq (l1 := .t (.tup xs)) (ρ1 := E .un) rfl rfl
  have fe : (List.range xs.length).filter (fun _ => false) = [] := List.filter_eq_nil_iff.mpr (fun _ _ h => by cases h)
  have comp : compD (iRange1 (dCons (den1 gLen (gVar 1)) dNil)) [2] (gNameT 2) (dNot (dTru (dCallP 2 fr (dCons (den2 gIx (gVar 0) (gVar 2)) (dCons (den2 gIx (gVar 1) (gVar 2)) dNil))))) (gVar 2) (E .un)
      = some (.own (.lst (((List.range xs.length).filter fun _ => false).map fun i => T.int (i : Nat))), E .un) := by
    refine compD_eq (xs := (List.range xs.length).map fun i => T.int (i : Nat)) (ho := none) (ρ1 := E .un) (iRange1_eq src hz) (compL_fm _ (fun _ => false) (fun i : Nat => T.int (i : Nat)) _ fun i hi => ?_) (by rw [fe]; exact Nat.zero_le _)
    have hi : i < xs.length := by simpa using hi
    have hm : xs[i] ∈ xs := List.getElem_mem hi
    have ea : atI xs (i : Int) = some xs[i] := L2.atI_nat (List.getElem?_eq_getElem hi)
    refine ⟨E (.t (.int i)), E (.t (.int i)), by simp only [E, den1, den2, gVar, gC, gAdd, gSub, gMod, gNeg, gIx, gLen, gAbs, gInt, gList, gTuple, gCat, L.lview, L.view, L.tree, L.hid, L.asBl, L.asInt, L.truth, dBl, dTru, gB, gEq, gNe, gLt_e, gLe_e, gGt_e, gGe_e, dCons, dNil, dTup, dLst, dSet, stoE, dRet, dDrop, dNot, dAnd, dOr, dYes, gNameT, gTupT, gConsT, gNilT, iEnumT, iSeq, iZipT, hideO, wipeE, restE, dMeth, isOwnL, fAppend, dSl, dSome, dNone, gSl, dCallP, allT, nor, finP, Option.bind_some, Option.map_some, List.getElem?_cons_zero, List.getElem?_cons_succ, List.set_cons_zero, List.set_cons_succ, List.length_cons, List.length_nil, List.map_cons, List.map_nil, List.replicate, List.cons_append, List.nil_append, List.append_nil, Option.toList_none, Option.toList_some, Nat.reduceAdd, Nat.reduceLT, if_true], ?_, (fun z => by cases z), fun _ => by simp only [E, den1, den2, gVar, gC, gAdd, gSub, gMod, gNeg, gIx, gLen, gAbs, gInt, gList, gTuple, gCat, L.lview, L.view, L.tree, L.hid, L.asBl, L.asInt, L.truth, dBl, dTru, gB, gEq, gNe, gLt_e, gLe_e, gGt_e, gGe_e, dCons, dNil, dTup, dLst, dSet, stoE, dRet, dDrop, dNot, dAnd, dOr, dYes, gNameT, gTupT, gConsT, gNilT, iEnumT, iSeq, iZipT, hideO, wipeE, restE, dMeth, isOwnL, fAppend, dSl, dSome, dNone, gSl, dCallP, allT, nor, finP, Option.bind_some, Option.map_some, List.getElem?_cons_zero, List.getElem?_cons_succ, List.set_cons_zero, List.set_cons_succ, List.length_cons, List.length_nil, List.map_cons, List.map_nil, List.replicate, List.cons_append, List.nil_append, List.append_nil, Option.toList_none, Option.toList_some]⟩
    have ix : ∀ k : Nat, (k = 0 ∨ k = 1) → den2 gIx (gVar k) (gVar 2) (E (.t (.int i))) = some (.t xs[i], E (.t (.int i))) := by
      rintro k hk
      have hv : gVar k (E (.t (.int i))) = some (.t x, E (.t (.int i))) := by rcases hk with rfl | rfl <;> rfl
      refine den2_eq hv (l2 := .t (.int i)) (ρ2 := E (.t (.int i))) rfl ?_
      rcases hx with rfl | rfl
      · exact gIx_l _ ea
      · simp only [gIx, ea, Option.map_some]
    have call : dCallP 2 fr (dCons (den2 gIx (gVar 0) (gVar 2)) (dCons (den2 gIx (gVar 1) (gVar 2)) dNil)) (E (.t (.int i))) = some (.t (.bl true), E (.t (.int i))) := dCallP_eq (dCons_eq (ix 0 (.inl rfl)) rfl (dCons_eq (ix 1 (.inr rfl)) rfl (ρ2 := E (.t (.int i))) (ts := []) rfl)) rfl (hfr _ hm) rfl
    simp only [dNot, dTru, call, Option.bind_some, L.truth, Option.map_some, Bool.not_true]
  have fin : den2 (gB gEq) (den1 gLen (compD (iRange1 (dCons (den1 gLen (gVar 1)) dNil)) [2] (gNameT 2) (dNot (dTru (dCallP 2 fr (dCons (den2 gIx (gVar 0) (gVar 2)) (dCons (den2 gIx (gVar 1) (gVar 2)) dNil))))) (gVar 2))) (gC (.int 0)) (E .un) = some (.t (.bl true), E .un) := by
    refine den2_eq (den1_eq comp rfl) (l2 := .t (.int 0)) (ρ2 := E .un) rfl ?_
    rw [fe]
    rfl
  have q0 : gVar 0 (E .un) = some (.t x, E .un) := rfl
  have q1 : gVar 1 (E .un) = some (.t x, E .un) := rfl
  have ne0 : den2 (gB gNe) (den1 gLen (gVar 0)) (den1 gLen (gVar 1)) (E .un) = some (.t (.bl false), E .un) := den2_eq src0 src (by
    simp only [gB, gNe, gEq, L.view, eqOk_int, if_true, Option.map_some, eqv_int, decide_true, Bool.not_true])
  have t1 : dOr (dTru (den1 (gIsi "list") (gVar 1))) (dTru (den1 (gIsi "tuple") (gVar 1))) (E .un) = some (true, E .un) := by
    rcases hx with rfl | rfl <;> rfl
  have t2 : dOr (dBl (den2 (gB gNe) (den1 (gIsi "list") (gVar 0)) (den1 (gIsi "list") (gVar 1)))) (dBl (den2 (gB gNe) (den1 (gIsi "tuple") (gVar 0)) (den1 (gIsi "tuple") (gVar 1)))) (E .un) = some (false, E .un) := by
    rcases hx with rfl | rfl <;> rfl
  have t3 : dBl (den2 (gB gNe) (den1 gLen (gVar 0)) (den1 gLen (gVar 1))) (E .un) = some (false, E .un) := by
    simp only [dBl, ne0, Option.bind_some, L.asBl, Option.map_some]
  refine bodyP_t (ρ' := E .un) rfl ?_
  show dAlike fr (E .un) = _
  rw [dAlike]
  refine dSeq_ret ?_
  rw [dIfS_t t1, dSeq_nx (ρ' := E .un) (by rw [dIfS_f t2]; rfl), dSeq_nx (ρ' := E .un) (by rw [dIfS_f t3]; rfl)]
  exact dRet_eq fin
theorem alike_flat {fr : List T → Option L} {x : T} (hx : x = .non ∨ ∃ i, x = .int i) : bodyP 2 3 (dAlike fr) [x, x] = some (.t (.bl true)) := by
  rcases hx with rfl | ⟨i, rfl⟩
  · rfl
  · refine bodyP_t (ρ' := [.t (.int i), .t (.int i), .un]) rfl ?_
    show dAlike fr [.t (.int i), .t (.int i), .un] = _
    have e : den2 (gB gEq) (gVar 0) (gVar 1) [.t (.int i), .t (.int i), .un] = some (.t (.bl true), [.t (.int i), .t (.int i), .un]) := den2_eq (l1 := .t (.int i)) (l2 := .t (.int i)) (ρ1 := [.t (.int i), .t (.int i), .un]) rfl rfl (by
      simp only [gB, gEq, L.view, eqOk_int, if_true, Option.map_some, eqv_int, decide_true])
    rw [dAlike]
    rw [dSeq_nx (ρ' := [.t (.int i), .t (.int i), .un]) rfl, dSeq_nx (ρ' := [.t (.int i), .t (.int i), .un]) rfl, dSeq_nx (ρ' := [.t (.int i), .t (.int i), .un]) rfl]
    refine dSeq_ret ?_
    rw [dIfS_t (ρ' := [.t (.int i), .t (.int i), .un]) rfl]
    refine dRet_eq (l := .t (.bl true)) ?_
    have a1 : den1 (gIsi "int") (gVar 0) [.t (.int i), .t (.int i), .un] = some (.t (.bl true), [.t (.int i), .t (.int i), .un]) := rfl
    have a2 : dNotV (den1 (gIsi "bool") (gVar 0)) [.t (.int i), .t (.int i), .un] = some (.t (.bl true), [.t (.int i), .t (.int i), .un]) := rfl
    simp only [dAndV, a1, a2, Option.bind_some, L.asBl, if_true, e]
theorem ev_alike : ∀ (q : Nat) (x : T), okT x = true → x.dep < q → fAlike q [x, x] = some (.t (.bl true))
  | 0, x, _, h => absurd h (Nat.not_lt_zero _)
  | q + 1, .non, _, _ => alike_flat (.inl rfl)
  | q + 1, .int i, _, _ => alike_flat (.inr ⟨i, rfl⟩)
  | q + 1, .lst xs, h, hd => by
    simp only [okT, Bool.and_eq_true, decide_eq_true_eq] at h
    simp only [T.dep] at hd
    exact alike_seq (.inl rfl) h.2 fun y hy => ev_alike q y (okTs_mem h.1 hy) (by have := deps_mem hy; omega)
  | q + 1, .tup xs, h, hd => by
    simp only [okT, Bool.and_eq_true, decide_eq_true_eq] at h
    simp only [T.dep] at hd
    exact alike_seq (.inr rfl) h.2 fun y hy => ev_alike q y (okTs_mem h.1 hy) (by have := deps_mem hy; omega)
  | q + 1, .bl b, _, _ => by cases b <;> rfl
  | q + 1, .str _, h, _ => by cases h
  | q + 1, .lkl _, h, _ => by cases h
  | q + 1, .fn _, h, _ => by cases h
  | q + 1, .dic _ _ _, h, _ => by cases h
theorem okTs_ii : ∀ ns : List Int, okTs (ii ns) = true
  | [] => rfl
  | n :: ns => by simp only [ii, List.map_cons, okTs, okT, Bool.true_and]; exact okTs_ii ns
theorem alike_ii {ns : List Int} (h : ns.length < 10000) : fAlike 5 [.lst (ii ns), .lst (ii ns)] = some (.t (.bl true)) := by
  refine ev_alike 5 _ ?_ ?_
  · simp only [okT, okTs_ii, Bool.true_and, decide_eq_true_eq, ii, List.length_map]; exact h
  · simp only [T.dep, ii, deps_ii]; decide
theorem okTs_pairs : ∀ ps : List (Int × Int), okTs (ps.map pairT) = true
  | [] => rfl
  | p :: ps => by simp only [List.map_cons, okTs, pairT, okT, Bool.true_and, Bool.and_eq_true]; exact ⟨rfl, okTs_pairs ps⟩
theorem deps_pairs : ∀ ps : List (Int × Int), T.deps (ps.map pairT) ≤ 1
  | [] => by simp [T.deps]
  | p :: ps => by
    have := deps_pairs ps
    have e : (pairT p).dep = 1 := rfl
    simp only [List.map_cons, T.deps, e]
    omega
theorem alike_pairs {ps : List (Int × Int)} (h : ps.length < 10000) : fAlike 5 [.lst (ps.map pairT), .lst (ps.map pairT)] = some (.t (.bl true)) := by
  refine ev_alike 5 _ ?_ ?_
  · simp only [okT, okTs_pairs, Bool.true_and, decide_eq_true_eq, List.length_map]; exact h
  · have := deps_pairs ps
    simp only [T.dep]; omega
theorem alike_int (i : Int) : fAlike 5 [.int i, .int i] = some (.t (.bl true)) := ev_alike 5 _ rfl (show 0 < 5 from by decide)
theorem alike_non : fAlike 5 [.non, .non] = some (.t (.bl true)) := ev_alike 5 _ rfl (show 0 < 5 from by decide)


theorem bodyF_t {n m : Nat} {as : List Nat} {d : DenS} {xs ts ys : List T} {ρ' : REnv} {x : T} (hl : (decide (ts.length + 1 = n) && !as.contains 0) = true) (h : d (L.own (.lst xs) :: (ts.map L.t ++ List.replicate (m - n) L.un)) = some (.ret (.t x), ρ')) (h0 : ρ'[0]? = some (L.own (.lst ys))) : bodyF n m as d xs ts = some (.t x, ys) := by
  simp only [bodyF, hl, h, h0, if_true, Option.bind_some, finP, Option.map_some]
/-- the feed: cells, place, number, state -/
def FD (cs : List Int) (a b c : Int) : List T := [.lst (ii cs), .int a, .int b, .int c]
def GF (fd : List T) : Prop := ∃ (cs : List Int) (a b c : Int), fd = FD cs a b c ∧ 0 ≤ a ∧ 0 ≤ b ∧ 0 ≤ c ∧ c < 2147483647
section
variable (cs : List Int) (a b c m : Int) (x y z : L)
def Fe : REnv := [.own (.lst (FD cs a b c)), .t (.int m), x, y, z]
theorem rd0 : den2 gIx (gVar 0) (gC (.int 0)) (Fe cs a b c m x y z) = some (.t (.lst (ii cs)), Fe cs a b c m x y z) := rfl
theorem rd1 : den2 gIx (gVar 0) (gC (.int 1)) (Fe cs a b c m x y z) = some (.t (.int a), Fe cs a b c m x y z) := rfl
theorem rd2 : den2 gIx (gVar 0) (gC (.int 2)) (Fe cs a b c m x y z) = some (.t (.int b), Fe cs a b c m x y z) := rfl
theorem rd3 : den2 gIx (gVar 0) (gC (.int 3)) (Fe cs a b c m x y z) = some (.t (.int c), Fe cs a b c m x y z) := rfl
theorem st2 {d : Den} {v : Int} (h : d (Fe cs a b c m x y z) = some (.t (.int v), Fe cs a b c m x y z)) : dAsg d (gSubT 0 (gC (.int 2))) (Fe cs a b c m x y z) = some (.nx, Fe cs a v c m x y z) := by rw [dAsg, h]; rfl
theorem st3 {d : Den} {v : Int} (h : d (Fe cs a b c m x y z) = some (.t (.int v), Fe cs a b c m x y z)) : dAsg d (gSubT 0 (gC (.int 3))) (Fe cs a b c m x y z) = some (.nx, Fe cs a b v m x y z) := by rw [dAsg, h]; rfl
theorem au1 : dAugS 0 gIAdd (gC (.int 1)) (gC (.int 1)) (Fe cs a b c m x y z) = some (.nx, Fe cs (a + 1) b c m x y z) := rfl
end
theorem gEq_i (ρ : REnv) (i j : Int) : gB gEq ρ (.t (.int i)) (.t (.int j)) = some (.t (.bl (decide (i = j)))) := by simp only [gB, gEq, L.view, eqOk_int, if_true, eqv_int, Option.map_some]
theorem gLt_i (ρ : REnv) (i j : Int) : gB gLt ρ (.t (.int i)) (.t (.int j)) = some (.t (.bl (decide (i < j)))) := rfl
theorem gGt_i (ρ : REnv) (i j : Int) : gB gGt ρ (.t (.int i)) (.t (.int j)) = some (.t (.bl (decide (j < i)))) := rfl
theorem gGe_i (ρ : REnv) (i j : Int) : gB gGe ρ (.t (.int i)) (.t (.int j)) = some (.t (.bl (decide (j ≤ i)))) := rfl
theorem dBl_eq {d : Den} {ρ ρ' : REnv} {b : Bool} (h : d ρ = some (.t (.bl b), ρ')) : dBl d ρ = some (b, ρ') := by simp only [dBl, h, Option.bind_some, L.asBl, Option.map_some]
theorem gAdd_i (ρ : REnv) (i j : Int) : gAdd ρ (.t (.int i)) (.t (.int j)) = some (.t (.int (i + j))) := rfl
theorem gInt_i (ρ : REnv) (i : Int) : gInt ρ (.t (.int i)) = some (.t (.int i)) := rfl
theorem gAbs_i (ρ : REnv) (i : Int) : ∃ w, gAbs ρ (.t (.int i)) = some (.t (.int w)) ∧ 0 ≤ w := by
  refine ⟨if i < 0 then -i else i, rfl, ?_⟩
  split <;> omega
theorem draw_stage1 (cs : List Int) (a b c m : Int) (ha : 0 ≤ a) (hb : 0 ≤ b) (hc : 0 ≤ c) (hc2 : c < 2147483647) :
    ∃ a1 b1 c1 x, 0 ≤ a1 ∧ 0 ≤ b1 ∧ 0 ≤ c1 ∧ c1 < 2147483647 ∧ (dIfS (dAnd (dBl (den2 (gB gEq) (den2 gIx (gVar 0) (gC (.int 2))) (gC (.int 0)))) (dBl (den2 (gB gLt) (den2 gIx (gVar 0) (gC (.int 1))) (den1 gLen (den2 gIx (gVar 0) (gC (.int 0))))))) (dSeq (dSet 2 (den1 gAbs (den1 gInt (den2 gIx (den2 gIx (gVar 0) (gC (.int 0))) (den2 gIx (gVar 0) (gC (.int 1)))))))
  (dSeq (dAugS 0 gIAdd (gC (.int 1)) (gC (.int 1)))
  (dIfS (dBl (den2 (gB gGe) (gVar 2) (den2 gPow (gC (.int 10)) (gC (.int 18))))) (dAsg (gVar 2) (gSubT 0 (gC (.int 2)))) (dAsg (den2 gMod (den1 gInt (den2 gAdd (den2 gAdd (den2 gMul (den2 gIx (gVar 0) (gC (.int 3))) (gC (.int 48271))) (den2 gMul (gVar 2) (gC (.int 69621)))) (den2 gIx (gVar 0) (gC (.int 1))))) (gC (.int 2147483647))) (gSubT 0 (gC (.int 3))))))) dNx) (Fe cs a b c m .un .un .un) = some (.nx, Fe cs a1 b1 c1 m x .un .un) := by
  have len : den1 gLen (den2 gIx (gVar 0) (gC (.int 0))) (Fe cs a b c m .un .un .un) = some (.t (.int cs.length), Fe cs a b c m .un .un .un) := by
    have e : (ii cs).length = cs.length := by simp [ii]
    exact den1_eq (rd0 cs a b c m .un .un .un) (by simp only [gLen, L.lview, e, Option.map_some])
  have k1 := dBl_eq (den2_eq (g := gB gEq) (rd2 cs a b c m .un .un .un) (d2 := gC (.int 0)) (l2 := .t (.int 0)) rfl (gEq_i _ b 0))
  have k2 := dBl_eq (den2_eq (g := gB gLt) (rd1 cs a b c m .un .un .un) len (gLt_i _ a cs.length))
  by_cases hcond : b = 0 ∧ a < cs.length
  · obtain ⟨h1, h2⟩ := hcond
    rw [decide_eq_true h1] at k1
    rw [decide_eq_true h2] at k2
    have kk : dAnd (dBl (den2 (gB gEq) (den2 gIx (gVar 0) (gC (.int 2))) (gC (.int 0)))) (dBl (den2 (gB gLt) (den2 gIx (gVar 0) (gC (.int 1))) (den1 gLen (den2 gIx (gVar 0) (gC (.int 0)))))) (Fe cs a b c m .un .un .un) = some (true, Fe cs a b c m .un .un .un) := by
      simp only [dAnd, k1, Option.bind_some, if_true, k2]
    rw [dIfS_t kk]
    have ea := atI_ints (ns := cs) ha h2
    obtain ⟨w, hw, hw0⟩ := gAbs_i (Fe cs a b c m .un .un .un) (cs.getD a.toNat 0)
    have s1 : dSet 2 (den1 gAbs (den1 gInt (den2 gIx (den2 gIx (gVar 0) (gC (.int 0))) (den2 gIx (gVar 0) (gC (.int 1)))))) (Fe cs a b c m .un .un .un) = some (.nx, Fe cs a b c m (.t (.int w)) .un .un) :=
      dSet_t (den1_eq (den1_eq (den2_eq (rd0 cs a b c m .un .un .un) (rd1 cs a b c m .un .un .un) (gIx_l _ ea)) (gInt_i _ _)) hw) (show 2 < 5 from by decide)
    rw [dSeq_nx s1, dSeq_nx (au1 cs a b c m (.t (.int w)) .un .un)]
    have k3 := dBl_eq (den2_eq (g := gB gGe) (d1 := gVar 2) (ρ := Fe cs (a + 1) b c m (.t (.int w)) .un .un) (l1 := .t (.int w)) rfl (d2 := den2 gPow (gC (.int 10)) (gC (.int 18))) (l2 := .t (.int 1000000000000000000)) (ρ2 := Fe cs (a + 1) b c m (.t (.int w)) .un .un) (by rfl) (gGe_i _ w 1000000000000000000))
    by_cases hw2 : 1000000000000000000 ≤ w
    · rw [decide_eq_true hw2] at k3
      rw [dIfS_t k3]
      exact ⟨a + 1, w, c, .t (.int w), by omega, by omega, hc, hc2, st2 cs (a + 1) b c m (.t (.int w)) .un .un rfl⟩
    · rw [decide_eq_false hw2] at k3
      rw [dIfS_f k3]
      have m1 := den2_eq (g := gMul) (rd3 cs (a + 1) b c m (.t (.int w)) .un .un) (d2 := gC (.int 48271)) (l2 := .t (.int 48271)) rfl (gMul_e _ (mulOk_smallr (i := c) (j := 48271) (by decide) (by decide)))
      have m2 := den2_eq (g := gMul) (d1 := gVar 2) (ρ := Fe cs (a + 1) b c m (.t (.int w)) .un .un) (l1 := .t (.int w)) rfl (d2 := gC (.int 69621)) (l2 := .t (.int 69621)) rfl (gMul_e _ (mulOk_smallr (i := w) (j := 69621) (by decide) (by decide)))
      have m3 := den2_eq (den1_eq (den2_eq (den2_eq m1 m2 (gAdd_i _ _ _)) (rd1 cs (a + 1) b c m (.t (.int w)) .un .un) (gAdd_i _ _ _)) (gInt_i _ _)) (d2 := gC (.int 2147483647)) (l2 := .t (.int 2147483647)) rfl (gMod_e _ (by decide))
      exact ⟨a + 1, b, (c * 48271 + w * 69621 + (a + 1)) % 2147483647, .t (.int w), by omega, hb, by omega, by omega, st3 cs (a + 1) b c m (.t (.int w)) .un .un m3⟩
  · refine ⟨a, b, c, .un, ha, hb, hc, hc2, ?_⟩
    have kk : dAnd (dBl (den2 (gB gEq) (den2 gIx (gVar 0) (gC (.int 2))) (gC (.int 0)))) (dBl (den2 (gB gLt) (den2 gIx (gVar 0) (gC (.int 1))) (den1 gLen (den2 gIx (gVar 0) (gC (.int 0)))))) (Fe cs a b c m .un .un .un) = some (false, Fe cs a b c m .un .un .un) := by
      by_cases h1 : b = 0
      · have h2 : ¬ a < cs.length := fun z => hcond ⟨h1, z⟩
        rw [decide_eq_true h1] at k1
        rw [decide_eq_false h2] at k2
        simp only [dAnd, k1, Option.bind_some, if_true, k2]
      · rw [decide_eq_false h1] at k1
        simp only [dAnd, k1, Option.bind_some]
        rfl
    rw [dIfS_f kk]
    rfl
theorem ev_draw {fd : List T} {m : Int} (hf : GF fd) (hm : 0 < m) (hm2 : m < 1073741824) : ∃ v fd', gDraw fd [.int m] = some (.t (.int v), fd') ∧ 0 ≤ v ∧ v < m ∧ GF fd' := by
  obtain ⟨cs, a0, b0, c0, rfl, ha0, hb0, hc0, hc02⟩ := hf
  obtain ⟨a, b, c, x, ha, hb, hc, hc2, s1⟩ := draw_stage1 cs a0 b0 c0 m ha0 hb0 hc0 hc02
  have k1 := dBl_eq (den2_eq (g := gB gGt) (rd2 cs a b c m x .un .un) (d2 := gC (.int 0)) (l2 := .t (.int 0)) rfl (gGt_i _ b 0))
  by_cases hp : 0 < b
  · rw [decide_eq_true hp] at k1
    have t1 : dSet 3 (den2 gMod (den1 gInt (den2 gIx (gVar 0) (gC (.int 2)))) (gVar 1)) (Fe cs a b c m x .un .un) = some (.nx, Fe cs a b c m x (.t (.int (b % m))) .un) :=
      dSet_t (den2_eq (den1_eq (rd2 cs a b c m x .un .un) (gInt_i _ _)) (l2 := .t (.int m)) (ρ2 := Fe cs a b c m x .un .un) rfl (gMod_e _ hm)) (show 3 < 5 from by decide)
    have t2 := st2 cs a b c m x (.t (.int (b % m))) .un (d := den2 gDiv (den2 gIx (gVar 0) (gC (.int 2))) (gVar 1)) (v := b / m) (den2_eq (rd2 cs a b c m x (.t (.int (b % m))) .un) (l2 := .t (.int m)) (ρ2 := Fe cs a b c m x (.t (.int (b % m))) .un) rfl (gDiv_e _ hm hm2))
    refine ⟨b % m, FD cs a (b / m) c, ?_, Int.emod_nonneg _ (by omega), Int.emod_lt_of_pos _ hm, ⟨cs, a, b / m, c, rfl, ha, Int.ediv_nonneg hb (by omega), hc, hc2⟩⟩
    refine bodyF_t (ρ' := Fe cs a (b / m) c m x (.t (.int (b % m))) .un) rfl ?_ rfl
    show dDraw (Fe cs a0 b0 c0 m .un .un .un) = _
    rw [dDraw, dSeq_nx s1]
    refine dSeq_ret ?_
    rw [dIfS_t k1, dSeq_nx t1, dSeq_nx t2]
    rfl
  · rw [decide_eq_false hp] at k1
    have m1 := den2_eq (g := gMul) (rd3 cs a b c m x .un .un) (d2 := gC (.int 16807)) (l2 := .t (.int 16807)) rfl (gMul_e _ (mulOk_smallr (i := c) (j := 16807) (by decide) (by decide)))
    have m2 := den2_eq (den1_eq (den2_eq m1 (d2 := gC (.int 12345)) (l2 := .t (.int 12345)) rfl (gAdd_i _ _ _)) (gInt_i _ _)) (d2 := gC (.int 2147483647)) (l2 := .t (.int 2147483647)) rfl (gMod_e _ (by decide))
    have t1 := st3 cs a b c m x .un .un m2
    generalize hc' : (c * 16807 + 12345) % 2147483647 = c' at t1
    have hc1 : 0 ≤ c' := by omega
    have hc3 : c' < 2147483647 := by omega
    have m3 := den2_eq (g := gMul) (rd3 cs a b c' m x .un .un) (rd3 cs a b c' m x .un .un) (gMul_e _ (mulOk_small (i := c') (j := c') (by omega) (by omega)))
    have m4 := den2_eq (den1_eq (den2_eq m3 (rd3 cs a b c' m x .un .un) (gAdd_i _ _ _)) (gInt_i _ _)) (d2 := gC (.int 2147483629)) (l2 := .t (.int 2147483629)) rfl (gMod_e _ (by decide))
    have t2 : dSet 4 _ (Fe cs a b c' m x .un .un) = some (.nx, Fe cs a b c' m x .un (.t (.int ((c' * c' + c') % 2147483629)))) := dSet_t m4 (show 4 < 5 from by decide)
    generalize hv : (c' * c' + c') % 2147483629 = w at t2
    have t3 := den2_eq (den2_eq (d1 := gVar 4) (ρ := Fe cs a b c' m x .un (.t (.int w))) (l1 := .t (.int w)) rfl (d2 := gC (.int 11)) (l2 := .t (.int 11)) rfl (gDiv_e _ (by decide) (by decide))) (d2 := gVar 1) (l2 := .t (.int m)) (ρ2 := Fe cs a b c' m x .un (.t (.int w))) rfl (gMod_e _ hm)
    refine ⟨w / 11 % m, FD cs a b c', ?_, Int.emod_nonneg _ (by omega), Int.emod_lt_of_pos _ hm, ⟨cs, a, b, c', rfl, ha, hb, hc1, hc3⟩⟩
    refine bodyF_t (ρ' := Fe cs a b c' m x .un (.t (.int w))) rfl ?_ rfl
    show dDraw (Fe cs a0 b0 c0 m .un .un .un) = _
    rw [dDraw, dSeq_nx s1, dSeq_nx (by rw [dIfS_f k1]; rfl), dSeq_nx t1, dSeq_nx t2]
    exact dRet_eq t3


/-! ### draws within expressions -/
theorem draw_call {i : Nat} {da : DenA} {ρ ρ1 : REnv} {fd : List T} {m : Int} (ho : isOwnL ρ i = true) (ha : da ρ = some ([.int m], ρ1)) (h1 : ρ1[i]? = some (.own (.lst fd))) (hf : GF fd) (hm : 0 < m) (hm2 : m < 1073741824) :
    ∃ v fd', dCallF 2 i gDraw da ρ = some (.t (.int v), ρ1.set i (.own (.lst fd'))) ∧ 0 ≤ v ∧ v < m ∧ GF fd' := by
  obtain ⟨v, fd', e, h2, h3, h4⟩ := ev_draw hf hm hm2
  refine ⟨v, fd', ?_, h2, h3, h4⟩
  simp only [dCallF, ho, ha, h1, e, if_true, Option.bind_some, List.length_cons, List.length_nil, Nat.zero_add, Nat.reduceAdd, nor, Option.map_some]
/-- a comprehension of draws -/
theorem compL_draw {vs : List Nat} {g : DenG} {de : Den} {m : Int} (Ef : List T → REnv) : ∀ xs : List T,
    (∀ x ∈ xs, ∀ fd, GF fd → ∃ ρa v fd' ρb, g x (Ef fd) = some ρa ∧ de ρa = some (.t (.int v), ρb) ∧ wipeE ρb vs = Ef fd' ∧ 0 ≤ v ∧ v < m ∧ GF fd') →
    ∀ fd, GF fd → ∃ ys fd', compL vs g dYes de xs (Ef fd) = some (ii ys, Ef fd') ∧ ys.length = xs.length ∧ (∀ y ∈ ys, 0 ≤ y ∧ y < m) ∧ GF fd'
  | [], _, fd, hf => ⟨[], fd, rfl, rfl, (fun y hy => by cases hy), hf⟩
  | x :: xs, h, fd, hf => by
    obtain ⟨ρa, v, fd1, ρb, h1, h2, h3, h4, h5, h6⟩ := h x List.mem_cons_self fd hf
    obtain ⟨ys, fd2, h7, h8, h9, h10⟩ := compL_draw Ef xs (fun y hy => h y (List.mem_cons_of_mem _ hy)) fd1 h6
    refine ⟨v :: ys, fd2, ?_, by simp [h8], fun y hy => ?_, h10⟩
    · simp only [compL, h1, Option.bind_some, dYes, if_true, h2, L.tree, h3, h7, Option.map_some, ii, List.map_cons]
    · rcases List.mem_cons.mp hy with rfl | hy
      · exact ⟨h4, h5⟩
      · exact h9 y hy

theorem dLst_eq {da : DenA} {ρ ρ1 : REnv} {ts : List T} (h : da ρ = some (ts, ρ1)) (hz : ts.length ≤ line) : dLst da ρ = some (.own (.lst ts), ρ1) := by simp only [dLst, h, Option.bind_some, hz, if_true]
theorem dTup_eq {da : DenA} {ρ ρ1 : REnv} {ts : List T} (h : da ρ = some (ts, ρ1)) (hz : ts.length ≤ line) : dTup da ρ = some (.t (.tup ts), ρ1) := by simp only [dTup, h, Option.bind_some, hz, if_true]
theorem gMul_one (ρ : REnv) (x : T) {k : Int} (h0 : 0 ≤ k) (h1 : k < 1000) : gMul ρ (.own (.lst [x])) (.t (.int k)) = some (.own (.lst (List.replicate k.toNat x))) := by
  have c : (decide (-(9223372036854775808) ≤ k) && decide (k < 9223372036854775808) && decide ([x].length * k.toNat ≤ line)) = true := by
    simp only [Bool.and_eq_true, decide_eq_true_eq]
    exact ⟨⟨by omega, by omega⟩, by show 1 * k.toNat ≤ 16777216; omega⟩
  have e : (List.replicate k.toNat [x]).flatten = List.replicate k.toNat x := List.flatten_replicate_singleton
  unfold gMul
  simp only [L.lview, c, if_true, e]
theorem rep_ii (m : Nat) (x : Int) : List.replicate m (T.int x) = ii (List.replicate m x) := by simp [ii]
theorem dSl_eq {d : Den} {dl dh : DenO} {ρ ρ1 ρ2 ρ3 : REnv} {l r : L} {lo hi : Option Int} (h : d ρ = some (l, ρ1)) (hl : dl ρ1 = some (lo, ρ2)) (hh : dh ρ2 = some (hi, ρ3)) (hg : gSl ρ3 l lo hi = some r) : dSl d dl dh ρ = some (r, ρ3) := by
  simp only [dSl, h, hl, hh, hg, Option.bind_some, Option.map_some]
theorem dSome_eq {d : Den} {ρ ρ1 : REnv} {i : Int} (h : d ρ = some (.t (.int i), ρ1)) : dSome d ρ = some (some i, ρ1) := by simp only [dSome, h, Option.bind_some, L.asInt, Option.map_some]
theorem gSl_o (ρ : REnv) {k : Nat} {xs : List T} {lo hi : Option Int} (h : ρ[k]? = some (.own (.lst xs))) : gSl ρ (.ref k) lo hi = some (.own (.lst (cutT xs lo hi))) := by simp only [gSl, L.lview, h, Option.map_some]
theorem gSl_n (ρ : REnv) {xs : List T} {lo hi : Option Int} : gSl ρ (.own (.lst xs)) lo hi = some (.own (.lst (cutT xs lo hi))) := by simp only [gSl, L.lview, Option.map_some]
theorem gSl_l (ρ : REnv) {xs : List T} {lo hi : Option Int} : gSl ρ (.t (.lst xs)) lo hi = some (.own (.lst (cutT xs lo hi))) := by simp only [gSl, L.lview, Option.map_some]
theorem gSl_t (ρ : REnv) {xs : List T} {lo hi : Option Int} : gSl ρ (.t (.tup xs)) lo hi = some (.t (.tup (cutT xs lo hi))) := by simp only [gSl]
theorem gAdd_o (ρ : REnv) {a b : List T} (h : a.length + b.length ≤ line) : gAdd ρ (.own (.lst a)) (.own (.lst b)) = some (.own (.lst (a ++ b))) := by simp only [gAdd, gCat, L.lview, h, if_true]
theorem gAdd_ro (ρ : REnv) {k : Nat} {a b : List T} (hr : ρ[k]? = some (.own (.lst a))) (h : a.length + b.length ≤ line) : gAdd ρ (.ref k) (.own (.lst b)) = some (.own (.lst (a ++ b))) := by simp only [gAdd, gCat, L.lview, hr, h, if_true]
theorem gAdd_t (ρ : REnv) {a b : List T} (h : a.length + b.length ≤ line) : gAdd ρ (.t (.tup a)) (.t (.tup b)) = some (.t (.tup (a ++ b))) := by simp only [gAdd, h, if_true]
theorem gIx_n (ρ : REnv) {xs : List T} {i : Int} {x : T} (e : atI xs i = some x) : gIx ρ (.own (.lst xs)) (.t (.int i)) = some (.t x) := by simp only [gIx, L.lview, e, Option.bind_some, Option.map_some]
theorem gIx_t (ρ : REnv) {xs : List T} {i : Int} {x : T} (e : atI xs i = some x) : gIx ρ (.t (.tup xs)) (.t (.int i)) = some (.t x) := by simp only [gIx, e, Option.map_some]
theorem dTru_b {d : Den} {ρ ρ' : REnv} {b : Bool} (h : d ρ = some (.t (.bl b), ρ')) : dTru d ρ = some (b, ρ') := by simp only [dTru, h, Option.bind_some, L.truth, Option.map_some]
theorem dNot_t {d : DenT} {ρ ρ' : REnv} {b : Bool} (h : d ρ = some (b, ρ')) : dNot d ρ = some (!b, ρ') := by simp only [dNot, h, Option.map_some]
theorem dOr_ff {d d' : DenT} {ρ ρ1 ρ2 : REnv} (h : d ρ = some (false, ρ1)) (h2 : d' ρ1 = some (false, ρ2)) : dOr d d' ρ = some (false, ρ2) := by simp [dOr, h, h2]
theorem dSet_n {i : Nat} {d : Den} {ρ ρ' : REnv} {l : L} (h : d ρ = some (l, ρ')) (hl : stoE i l ρ' = some (ρ'.set i l)) : dSet i d ρ = some (.nx, ρ'.set i l) := by simp [dSet, h, hl]
theorem getD_range {f : Nat → Int} {n i : Nat} (h : i < n) : ((List.range n).map f).getD i 0 = f i := by simp [List.getD_eq_getElem?_getD, h]
theorem ext_getD {a b : List Int} (hl : a.length = b.length) (h : ∀ i, i < a.length → a.getD i 0 = b.getD i 0) : a = b := by
  refine List.ext_getElem hl fun i h1 h2 => ?_
  have := h i h1
  simpa [List.getD_eq_getElem?_getD, h1, h2] using this
theorem meth_app {i : Nat} {da : DenA} {ρ ρ1 : REnv} {xs : List T} {x : T} (ho : isOwnL ρ i = true) (ha : da ρ = some ([x], ρ1)) (h1 : ρ1[i]? = some (.own (.lst xs))) (hz : xs.length < line) :
    dDrop (dMeth i fAppend da) ρ = some (.nx, ρ1.set i (.own (.lst (xs ++ [x])))) := by
  simp only [dDrop, dMeth, ho, ha, h1, if_true, Option.bind_some, app_own hz, Option.map_some]
theorem dIfS_eq {c : DenT} {d d' : DenS} {ρ ρ' : REnv} {b : Bool} (h : c ρ = some (b, ρ')) : dIfS c d d' ρ = if b = true then d ρ' else d' ρ' := by
  cases b
  · rw [dIfS_f h]; rfl
  · rw [dIfS_t h]; rfl
end LW
namespace LK
open PySem PySem.Spec PyProof.Rows L2 LW
def topS (i : Nat) : Stmt := PySem.Challenge.pw_latewords_k69_whole_rounds_joined.main.body.getD i (.Pass ⟨0, 0, 0, 0⟩)
section
variable {P : Program} {w : World} {K : PySem.W.Frag} {mg : Str → Option Value} {base : Heap} {fa : Nat → Addr} {k : Nat} {f : Addr} {fd : FuncData}
abbrev s_power_of : Stmt := topS 1
theorem sc_power_of : FnScope ["p", "many", "found", "_"] ["p", "many"] (defScope s_power_of) := ⟨rfl, rfl, rfl, by decide +kernel, rfl, by decide +kernel, by decide +kernel⟩
def E_power_of (p many found s_ : L) : REnv := [p, many, found, s_]
def t_power_of_1 : DenS := (dSet 2 (gC (.int 1)))
def t_power_of_2 : DenS := (dAug 2 gIMul (gVar 0))
def l_power_of_1 : DenS := t_power_of_2
def t_power_of_3 : DenS := (dFor [3, 2] (iRange1 (dCons (gVar 1) dNil)) (gNameT 3) l_power_of_1)
def t_power_of_4 : DenS := (dRet (gVar 2))
def d_power_of : DenS := (dSeq t_power_of_1
  (dSeq t_power_of_3
  t_power_of_4))
def f_power_of : List T → Option L := bodyP 2 4 d_power_of
theorem ok_power_of (F : Fun K "power_of" "power_of" s_power_of f fd) (hmg : mg "power_of" = some (.ref f)) (hb : Binds K fd ["p", "many"] []) (m_range : mg "range" = none) : Fn P w K mg base fa (k + 1) "power_of" 2 (pureF f_power_of) :=
  fn_pure (as := [2, 3, 2]) (d := d_power_of) F sc_power_of hmg hb fun cdv A outer s H E hr => (SSs.cons (SS.st (i := 2) sc_power_of.nd (by rfl) (by rfl) SE.int (by rfl) (by rfl))
      (SSs.cons (SS.for PassesOwn.never (by rfl) (SI.range1 (by rfl) m_range (SA.cons (SE.v 1 (by rfl) (by rfl) (by rfl) (by rfl)) SA.nil (by rfl)) (by rfl)) (SG.n (i := 3) sc_power_of.nd (by rfl) (by rfl) (by rfl)) (SSs.one (SS.aug (i := 2) sc_power_of.nd (by rfl) (loc_of (by rfl)) (SE.v 0 (by rfl) (by rfl) (by rfl) (by rfl)) iop_mul opt_imul (lf_of (by rfl)))) (fun _ => (by rfl)))
      (SSs.one (SS.ret (SE.v 2 (by rfl) (by rfl) (by rfl) (by rfl))))))
abbrev s_all_tuples : Stmt := topS 2
theorem sc_all_tuples : FnScope ["p", "many", "found", "_", "own", "k"] ["p", "many"] (defScope s_all_tuples) := ⟨rfl, rfl, rfl, by decide +kernel, rfl, by decide +kernel, by decide +kernel⟩
def E_all_tuples (p many found s_ own k : L) : REnv := [p, many, found, s_, own, k]
def t_all_tuples_1 : DenS := (dSet 2 (dLst (dCons (dTup dNil) dNil)))
def c_all_tuples_1 : Den := (compD2 (iSeq (gVar 2)) [4, 5] (gNameT 4) dYes (iR1 (dCons (gVar 0) dNil)) [5] (gNameT 5) dYes (den2 gAdd (gVar 4) (dTup (dCons (gVar 5) dNil))))
def t_all_tuples_2 : DenS := (dSet 2 c_all_tuples_1)
def l_all_tuples_1 : DenS := t_all_tuples_2
def t_all_tuples_3 : DenS := (dFor [3, 2] (iRange1 (dCons (gVar 1) dNil)) (gNameT 3) l_all_tuples_1)
def t_all_tuples_4 : DenS := (dRet (gVar 2))
def d_all_tuples : DenS := (dSeq t_all_tuples_1
  (dSeq t_all_tuples_3
  t_all_tuples_4))
def f_all_tuples : List T → Option L := bodyP 2 6 d_all_tuples
theorem ok_all_tuples (F : Fun K "all_tuples" "all_tuples" s_all_tuples f fd) (hmg : mg "all_tuples" = some (.ref f)) (hb : Binds K fd ["p", "many"] []) (m_range : mg "range" = none) : Fn P w K mg base fa (k + 1) "all_tuples" 2 (pureF f_all_tuples) :=
  fn_pure (as := [2, 3, 2]) (d := d_all_tuples) F sc_all_tuples hmg hb fun cdv A outer s H E hr => (SSs.cons (SS.st (i := 2) sc_all_tuples.nd (by rfl) (by rfl) (SE.lst (SA.cons (SE.tup SA.nil) SA.nil (by rfl))) (by rfl) (by rfl))
      (SSs.cons (SS.for PassesOwn.never (by rfl) (SI.range1 (by rfl) m_range (SA.cons (SE.v 1 (by rfl) (by rfl) (by rfl) (by rfl)) SA.nil (by rfl)) (by rfl)) (SG.n (i := 3) sc_all_tuples.nd (by rfl) (by rfl) (by rfl)) (SSs.one (SS.setC2 (i := 2) (by rfl) (by rfl) sc_all_tuples.nd (by rfl) (by rfl) (sw_true (by rfl) (by rfl) (by rfl) (by decide +kernel)) (SI.seq (SE.v 2 (by rfl) (by rfl) (by rfl) (by rfl))) (blkOk_by (own := [("own", 4), ("k", 5)]) (N := ["p", "many", "found", "_", "own", "k"]) (sc := defScope s_all_tuples) (by decide +kernel)) (by decide) (by decide) (by decide) (fun _ _ _ _ _ => (SG.n (i := 4) sc_all_tuples.nd (by rfl) (by rfl) (by rfl))) (fun _ _ _ _ _ => STs.nil) (fun _ _ _ _ _ => (SI0.range1 (by rfl) m_range (SA.cons (SE.v 0 (by rfl) (by rfl) (by rfl) (by rfl)) SA.nil (by rfl)) (by rfl))) (fun _ _ _ _ _ => (SG.n (i := 5) sc_all_tuples.nd (by rfl) (by rfl) (by rfl))) (fun _ _ _ _ _ => STs.nil) (fun _ _ _ _ _ => (SE.add (SE.v 4 (by rfl) (by rfl) (by rfl) (by rfl)) (SE.tup (SA.cons (SE.v 5 (by rfl) (by rfl) (by rfl) (by rfl)) SA.nil (by rfl))))) (fun _ => (by rfl)) (fun _ _ => (by rfl)))) (fun _ => (by rfl)))
      (SSs.one (SS.ret (SE.v 2 (by rfl) (by rfl) (by rfl) (by rfl))))))
abbrev s_size_of_table : Stmt := topS 4
theorem sc_size_of_table : FnScope ["table", "size"] ["table"] (defScope s_size_of_table) := ⟨rfl, rfl, rfl, by decide +kernel, rfl, by decide +kernel, by decide +kernel⟩
def E_size_of_table (table size : L) : REnv := [table, size]
def t_size_of_table_1 : DenS := (dSet 1 (gC (.int 0)))
def b_size_of_table_1 : DenT := (dBl (den2 (gB gLt) (dCallP 2 f_power_of (dCons (gC (.int 2)) (dCons (gVar 1) dNil))) (den1 gLen (gVar 0))))
def t_size_of_table_2 : DenS := (dAug 1 gIAdd (gC (.int 1)))
def l_size_of_table_1 : DenS := t_size_of_table_2
def t_size_of_table_3 : DenS := (whileL b_size_of_table_1 l_size_of_table_1 1000)
def t_size_of_table_4 : DenS := (dRet (gVar 1))
def d_size_of_table : DenS := (dSeq t_size_of_table_1
  (dSeq t_size_of_table_3
  t_size_of_table_4))
def f_size_of_table : List T → Option L := bodyP 1 2 d_size_of_table
theorem ok_size_of_table (F : Fun K "size_of_table" "size_of_table" s_size_of_table f fd) (hmg : mg "size_of_table" = some (.ref f)) (hb : Binds K fd ["table"] []) (c_power_of : Fn P w K mg base fa k "power_of" 2 (pureF f_power_of)) (m_len : mg "len" = none) : Fn P w K mg base fa (k + 1) "size_of_table" 1 (pureF f_size_of_table) :=
  fn_pure (as := [1, 1]) (d := d_size_of_table) F sc_size_of_table hmg hb fun cdv A outer s H E hr => (SSs.cons (SS.st (i := 1) sc_size_of_table.nd (by rfl) (by rfl) SE.int (by rfl) (by rfl))
      (SSs.cons (SS.while (n := 1000) PassesOwn.never (ST.cmp (SE.callP c_power_of hr (by rfl) (SA.cons SE.int (SA.cons (SE.v 1 (by rfl) (by rfl) (by rfl) (by rfl)) SA.nil (by rfl)) (by rfl)) (by rfl) (by rfl) (by rfl)) (SE.len (by rfl) m_len (SE.v 0 (by rfl) (by rfl) (by rfl) (by rfl)) (by rfl)) (cmp_lt) (by rfl)) (SSs.one (SS.aug (i := 1) sc_size_of_table.nd (by rfl) (loc_of (by rfl)) SE.int iop_addT opt_iadd (lf_of (by rfl)))))
      (SSs.one (SS.ret (SE.v 1 (by rfl) (by rfl) (by rfl) (by rfl))))))
abbrev s_number_of : Stmt := topS 5
theorem sc_number_of : FnScope ["state", "found", "bit"] ["state"] (defScope s_number_of) := ⟨rfl, rfl, rfl, by decide +kernel, rfl, by decide +kernel, by decide +kernel⟩
def E_number_of (state found bit : L) : REnv := [state, found, bit]
def t_number_of_1 : DenS := (dSet 1 (gC (.int 0)))
def t_number_of_2 : DenS := (dSet 1 (den2 gAdd (den2 gMul (gC (.int 2)) (gVar 1)) (gVar 2)))
def l_number_of_1 : DenS := t_number_of_2
def t_number_of_3 : DenS := (dFor [2, 1] (iSeq (gVar 0)) (gNameT 2) l_number_of_1)
def t_number_of_4 : DenS := (dRet (gVar 1))
def d_number_of : DenS := (dSeq t_number_of_1
  (dSeq t_number_of_3
  t_number_of_4))
def f_number_of : List T → Option L := bodyP 1 3 d_number_of
theorem ok_number_of (F : Fun K "number_of" "number_of" s_number_of f fd) (hmg : mg "number_of" = some (.ref f)) (hb : Binds K fd ["state"] [])  : Fn P w K mg base fa (k + 1) "number_of" 1 (pureF f_number_of) :=
  fn_pure (as := [1, 2, 1]) (d := d_number_of) F sc_number_of hmg hb fun cdv A outer s H E hr => (SSs.cons (SS.st (i := 1) sc_number_of.nd (by rfl) (by rfl) SE.int (by rfl) (by rfl))
      (SSs.cons (SS.for PassesOwn.never (by rfl) (SI.seq (SE.v 0 (by rfl) (by rfl) (by rfl) (by rfl))) (SG.n (i := 2) sc_number_of.nd (by rfl) (by rfl) (by rfl)) (SSs.one (SS.st (i := 1) sc_number_of.nd (by rfl) (by rfl) (SE.add (SE.mul SE.int (SE.v 1 (by rfl) (by rfl) (by rfl) (by rfl))) (SE.v 2 (by rfl) (by rfl) (by rfl) (by rfl))) (by rfl) (by rfl))) (fun _ => (by rfl)))
      (SSs.one (SS.ret (SE.v 1 (by rfl) (by rfl) (by rfl) (by rfl))))))
abbrev s_next_of : Stmt := topS 6
theorem sc_next_of : FnScope ["table", "state"] ["table", "state"] (defScope s_next_of) := ⟨rfl, rfl, rfl, by decide +kernel, rfl, by decide +kernel, by decide +kernel⟩
def E_next_of (table state : L) : REnv := [table, state]
def t_next_of_1 : DenS := (dRet (den2 gAdd (dSl (gVar 1) (dSome (gC (.int 1))) dNone) (dTup (dCons (den2 gIx (gVar 0) (dCallP 1 f_number_of (dCons (gVar 1) dNil))) dNil))))
def d_next_of : DenS := t_next_of_1
def f_next_of : List T → Option L := bodyP 2 2 d_next_of
theorem ok_next_of (F : Fun K "next_of" "next_of" s_next_of f fd) (hmg : mg "next_of" = some (.ref f)) (hb : Binds K fd ["table", "state"] []) (c_number_of : Fn P w K mg base fa k "number_of" 1 (pureF f_number_of)) : Fn P w K mg base fa (k + 1) "next_of" 2 (pureF f_next_of) :=
  fn_pure (as := []) (d := d_next_of) F sc_next_of hmg hb fun cdv A outer s H E hr => (SSs.one (SS.ret (SE.add (SE.sl (SE.v 1 (by rfl) (by rfl) (by rfl) (by rfl)) (SO.some SE.int) SO.none) (SE.tup (SA.cons (SE.ix (SE.v 0 (by rfl) (by rfl) (by rfl) (by rfl)) (SE.callP c_number_of hr (by rfl) (SA.cons (SE.v 1 (by rfl) (by rfl) (by rfl) (by rfl)) SA.nil (by rfl)) (by rfl) (by rfl) (by rfl)) (fun _ _ => (by rfl))) SA.nil (by rfl))))))
abbrev s_table_states : Stmt := topS 7
theorem sc_table_states : FnScope ["table", "state", "found", "here"] ["table", "state"] (defScope s_table_states) := ⟨rfl, rfl, rfl, by decide +kernel, rfl, by decide +kernel, by decide +kernel⟩
def E_table_states (table state found here : L) : REnv := [table, state, found, here]
def t_table_states_1 : DenS := (dSet 2 (dLst dNil))
def t_table_states_2 : DenS := (dSet 3 (den1 gTuple (gVar 1)))
def b_table_states_1 : DenT := (dBl (den2 (gB gNotIn) (gVar 3) (gVar 2)))
def t_table_states_3 : DenS := (dDrop (dMeth 2 fAppend (dCons (dFrz 3) dNil)))
def t_table_states_4 : DenS := (dSet 3 (dCallP 2 f_next_of (dCons (gVar 0) (dCons (dFrz 3) dNil))))
def l_table_states_1 : DenS := (dSeq t_table_states_3
  t_table_states_4)
def t_table_states_5 : DenS := (whileL b_table_states_1 l_table_states_1 1000)
def t_table_states_6 : DenS := (dRet (gVar 2))
def d_table_states : DenS := (dSeq t_table_states_1
  (dSeq t_table_states_2
  (dSeq t_table_states_5
  t_table_states_6)))
def f_table_states : List T → Option L := bodyP 2 4 d_table_states
theorem ok_table_states (F : Fun K "table_states" "table_states" s_table_states f fd) (hmg : mg "table_states" = some (.ref f)) (hb : Binds K fd ["table", "state"] []) (c_next_of : Fn P w K mg base fa k "next_of" 2 (pureF f_next_of)) (m_tuple : mg "tuple" = none) : Fn P w K mg base fa (k + 1) "table_states" 2 (pureF f_table_states) :=
  fn_pure (as := [2, 3, 3]) (d := d_table_states) F sc_table_states hmg hb fun cdv A outer s H E hr => (SSs.cons (SS.st (i := 2) sc_table_states.nd (by rfl) (by rfl) (SE.lst SA.nil) (by rfl) (by rfl))
      (SSs.cons (SS.st (i := 3) sc_table_states.nd (by rfl) (by rfl) (SE.tuple1 (by rfl) m_tuple (SE.v 1 (by rfl) (by rfl) (by rfl) (by rfl)) (by rfl)) (by rfl) (by rfl))
      (SSs.cons (SS.while (n := 1000) PassesOwn.never (ST.cmp (SE.v 3 (by rfl) (by rfl) (by rfl) (by rfl)) (SE.v 2 (by rfl) (by rfl) (by rfl) (by rfl)) (cmp_notIn (room65 hr)) (by rfl)) (SSs.cons (SS.expr (SE.meth (i := 2) PySem.F.slot_list_append PySem.F.type_list_append mt_append me_append (by rfl) (vis_of (by rfl)) (by rfl) (by rfl) (SA.cons (SE.frz (SE.v 3 (by rfl) (by rfl) (by rfl) (by rfl))) SA.nil (by rfl)) (by rfl) (by rfl) (by rfl) (by rfl)) (by rfl))
      (SSs.one (SS.st (i := 3) sc_table_states.nd (by rfl) (by rfl) (SE.callP c_next_of hr (by rfl) (SA.cons (SE.v 0 (by rfl) (by rfl) (by rfl) (by rfl)) (SA.cons (SE.frz (SE.v 3 (by rfl) (by rfl) (by rfl) (by rfl))) SA.nil (by rfl)) (by rfl)) (by rfl) (by rfl) (by rfl)) (by rfl) (by rfl)))))
      (SSs.one (SS.ret (SE.v 2 (by rfl) (by rfl) (by rfl) (by rfl)))))))
abbrev s_is_round_table : Stmt := topS 8
theorem sc_is_round_table : FnScope ["table", "half", "at"] ["table"] (defScope s_is_round_table) := ⟨rfl, rfl, rfl, by decide +kernel, rfl, by decide +kernel, by decide +kernel⟩
def E_is_round_table (table half at_ : L) : REnv := [table, half, at_]
def t_is_round_table_1 : DenS := (dSet 1 (den2 gDiv (den1 gLen (gVar 0)) (gC (.int 2))))
def c_is_round_table_1 : Den := (compD (iRange1 (dCons (dFrz 1) dNil)) [2] (gNameT 2) dYes (den2 (gB gNe) (den2 gIx (gVar 0) (gVar 2)) (den2 gIx (gVar 0) (den2 gAdd (gVar 2) (gVar 1)))))
def t_is_round_table_2 : DenS := (dRet (den1 gAll c_is_round_table_1))
def d_is_round_table : DenS := (dSeq t_is_round_table_1
  t_is_round_table_2)
def f_is_round_table : List T → Option L := bodyP 1 3 d_is_round_table
theorem ok_is_round_table (F : Fun K "is_round_table" "is_round_table" s_is_round_table f fd) (hmg : mg "is_round_table" = some (.ref f)) (hb : Binds K fd ["table"] []) (m_all : mg "all" = none) (m_len : mg "len" = none) (m_range : mg "range" = none) : Fn P w K mg base fa (k + 1) "is_round_table" 1 (pureF f_is_round_table) :=
  fn_pure (as := [1]) (d := d_is_round_table) F sc_is_round_table hmg hb fun cdv A outer s H E hr => (SSs.cons (SS.st (i := 1) sc_is_round_table.nd (by rfl) (by rfl) (SE.div (SE.len (by rfl) m_len (SE.v 0 (by rfl) (by rfl) (by rfl) (by rfl)) (by rfl)) SE.int) (by rfl) (by rfl))
      (SSs.one (SS.ret (SE.all (by rfl) (by rfl) m_all (SE.lc (by rfl) (by rfl) sc_is_round_table.nd (SI.range1 (by rfl) m_range (SA.cons (SE.frz (SE.v 1 (by rfl) (by rfl) (by rfl) (by rfl))) SA.nil (by rfl)) (by rfl)) (blkOk_by (own := [("at", 2)]) (N := ["table", "half", "at"]) (sc := defScope s_is_round_table) (by decide +kernel)) (by decide) (fun _ _ _ _ _ => (SG.n (i := 2) sc_is_round_table.nd (by rfl) (by rfl) (by rfl))) (fun _ _ _ _ _ => STs.nil) (fun _ _ _ _ _ => (SE.cmp (SE.ix (SE.v 0 (by rfl) (by rfl) (by rfl) (by rfl)) (SE.v 2 (by rfl) (by rfl) (by rfl) (by rfl)) (fun _ _ => (by rfl))) (SE.ix (SE.v 0 (by rfl) (by rfl) (by rfl) (by rfl)) (SE.add (SE.v 2 (by rfl) (by rfl) (by rfl) (by rfl)) (SE.v 1 (by rfl) (by rfl) (by rfl) (by rfl))) (fun _ _ => (by rfl))) (cmp_ne (room64 hr)) (by rfl))) (fun _ => (by rfl))) (by rfl)))))
abbrev s_rounds_of_table : Stmt := topS 9
theorem sc_rounds_of_table : FnScope ["table", "met", "found", "state", "turn", "own"] ["table"] (defScope s_rounds_of_table) := ⟨rfl, rfl, rfl, by decide +kernel, rfl, by decide +kernel, by decide +kernel⟩
def E_rounds_of_table (table met found state turn own : L) : REnv := [table, met, found, state, turn, own]
def t_rounds_of_table_1 : DenS := (dSet 1 dDicT)
def t_rounds_of_table_2 : DenS := (dSet 2 (dLst dNil))
def b_rounds_of_table_1 : DenT := (dBl (den2 (gB gDnotin) (gVar 3) (gVar 1)))
def t_rounds_of_table_3 : DenS := (dSet 4 (dCallP 2 f_table_states (dCons (gVar 0) (dCons (gVar 3) dNil))))
def t_rounds_of_table_4 : DenS := (dDputT 1 (gVar 5) (gC (.bl true)))
def l_rounds_of_table_1 : DenS := t_rounds_of_table_4
def t_rounds_of_table_5 : DenS := (dFor [5] (iSeq (gVar 4)) (gNameT 5) l_rounds_of_table_1)
def t_rounds_of_table_6 : DenS := (dDrop (dMeth 2 fAppend (dCons (dFrz 4) dNil)))
def t_rounds_of_table_7 : DenS := (dIfS b_rounds_of_table_1 (dSeq t_rounds_of_table_3
  (dSeq t_rounds_of_table_5
  t_rounds_of_table_6)) dNx)
def l_rounds_of_table_2 : DenS := t_rounds_of_table_7
def t_rounds_of_table_8 : DenS := (dFor [3, 4, 5] (iSeq (dCallP 2 f_all_tuples (dCons (gC (.int 2)) (dCons (dCallP 1 f_size_of_table (dCons (gVar 0) dNil)) dNil)))) (gNameT 3) l_rounds_of_table_2)
def t_rounds_of_table_9 : DenS := (dRet (gVar 2))
def d_rounds_of_table : DenS := (dSeq t_rounds_of_table_1
  (dSeq t_rounds_of_table_2
  (dSeq t_rounds_of_table_8
  t_rounds_of_table_9)))
def f_rounds_of_table : List T → Option L := bodyP 1 6 d_rounds_of_table
theorem ok_rounds_of_table (F : Fun K "rounds_of_table" "rounds_of_table" s_rounds_of_table f fd) (hmg : mg "rounds_of_table" = some (.ref f)) (hb : Binds K fd ["table"] []) (c_all_tuples : Fn P w K mg base fa k "all_tuples" 2 (pureF f_all_tuples)) (c_size_of_table : Fn P w K mg base fa k "size_of_table" 1 (pureF f_size_of_table)) (c_table_states : Fn P w K mg base fa k "table_states" 2 (pureF f_table_states)) : Fn P w K mg base fa (k + 1) "rounds_of_table" 1 (pureF f_rounds_of_table) :=
  fn_pure (as := [1, 2, 3, 4, 5]) (d := d_rounds_of_table) F sc_rounds_of_table hmg hb fun cdv A outer s H E hr => (SSs.cons (SS.st (i := 1) sc_rounds_of_table.nd (by rfl) (by rfl) SE.dicT (by rfl) (by rfl))
      (SSs.cons (SS.st (i := 2) sc_rounds_of_table.nd (by rfl) (by rfl) (SE.lst SA.nil) (by rfl) (by rfl))
      (SSs.cons (SS.for PassesOwn.never (by rfl) (SI.seq (SE.callP c_all_tuples hr (by rfl) (SA.cons SE.int (SA.cons (SE.callP c_size_of_table hr (by rfl) (SA.cons (SE.v 0 (by rfl) (by rfl) (by rfl) (by rfl)) SA.nil (by rfl)) (by rfl) (by rfl) (by rfl)) SA.nil (by rfl)) (by rfl)) (by rfl) (by rfl) (by rfl))) (SG.n (i := 3) sc_rounds_of_table.nd (by rfl) (by rfl) (by rfl)) (SSs.one (SS.ite (ST.dnotin (room1 hr) (SE.v 3 (by rfl) (by rfl) (by rfl) (by rfl)) (SE.v 1 (by rfl) (by rfl) (by rfl) (by rfl)) (by rfl)) (SSs.cons (SS.st (i := 4) sc_rounds_of_table.nd (by rfl) (by rfl) (SE.callP c_table_states hr (by rfl) (SA.cons (SE.v 0 (by rfl) (by rfl) (by rfl) (by rfl)) (SA.cons (SE.v 3 (by rfl) (by rfl) (by rfl) (by rfl)) SA.nil (by rfl)) (by rfl)) (by rfl) (by rfl) (by rfl)) (by rfl) (by rfl))
      (SSs.cons (SS.for PassesOwn.never (by rfl) (SI.seq (SE.v 4 (by rfl) (by rfl) (by rfl) (by rfl))) (SG.n (i := 5) sc_rounds_of_table.nd (by rfl) (by rfl) (by rfl)) (SSs.one (SS.dputT (i := 1) (room1 hr) (by rfl) (by rfl) (by rfl) (by rfl) (SE.v 5 (by rfl) (by rfl) (by rfl) (by rfl)) SE.bl (by rfl))) (fun _ => (by rfl)))
      (SSs.one (SS.expr (SE.meth (i := 2) PySem.F.slot_list_append PySem.F.type_list_append mt_append me_append (by rfl) (vis_of (by rfl)) (by rfl) (by rfl) (SA.cons (SE.frz (SE.v 4 (by rfl) (by rfl) (by rfl) (by rfl))) SA.nil (by rfl)) (by rfl) (by rfl) (by rfl) (by rfl)) (by rfl))))) SSs.nil)) (fun _ => (by rfl)))
      (SSs.one (SS.ret (SE.v 2 (by rfl) (by rfl) (by rfl) (by rfl)))))))
abbrev s_are_apart : Stmt := topS 10
theorem sc_are_apart : FnScope ["table", "one", "other"] ["table", "one", "other"] (defScope s_are_apart) := ⟨rfl, rfl, rfl, by decide +kernel, rfl, by decide +kernel, by decide +kernel⟩
def E_are_apart (table one other : L) : REnv := [table, one, other]
def t_are_apart_1 : DenS := (dRet (den2 (gB gNotIn) (gVar 2) (dCallP 2 f_table_states (dCons (gVar 0) (dCons (gVar 1) dNil)))))
def d_are_apart : DenS := t_are_apart_1
def f_are_apart : List T → Option L := bodyP 3 3 d_are_apart
theorem ok_are_apart (F : Fun K "are_apart" "are_apart" s_are_apart f fd) (hmg : mg "are_apart" = some (.ref f)) (hb : Binds K fd ["table", "one", "other"] []) (c_table_states : Fn P w K mg base fa k "table_states" 2 (pureF f_table_states)) : Fn P w K mg base fa (k + 1) "are_apart" 3 (pureF f_are_apart) :=
  fn_pure (as := []) (d := d_are_apart) F sc_are_apart hmg hb fun cdv A outer s H E hr => (SSs.one (SS.ret (SE.cmp (SE.v 2 (by rfl) (by rfl) (by rfl) (by rfl)) (SE.callP c_table_states hr (by rfl) (SA.cons (SE.v 0 (by rfl) (by rfl) (by rfl) (by rfl)) (SA.cons (SE.v 1 (by rfl) (by rfl) (by rfl) (by rfl)) SA.nil (by rfl)) (by rfl)) (by rfl) (by rfl) (by rfl)) (cmp_notIn (room65 hr)) (by rfl))))
abbrev s_joined_table : Stmt := topS 11
theorem sc_joined_table : FnScope ["table", "found", "half", "states", "at"] ["table"] (defScope s_joined_table) := ⟨rfl, rfl, rfl, by decide +kernel, rfl, by decide +kernel, by decide +kernel⟩
def E_joined_table (table found half states at_ : L) : REnv := [table, found, half, states, at_]
def t_joined_table_1 : DenS := (dSet 1 (den1 gList (gVar 0)))
def t_joined_table_2 : DenS := (dSet 2 (den2 gDiv (den1 gLen (gVar 0)) (gC (.int 2))))
def t_joined_table_3 : DenS := (dSet 3 (dCallP 2 f_all_tuples (dCons (gC (.int 2)) (dCons (dCallP 1 f_size_of_table (dCons (gVar 0) dNil)) dNil))))
def b_joined_table_1 : DenT := (dTru (dBor (dCallP 3 f_are_apart (dCons (gVar 1) (dCons (den2 gIx (gVar 3) (gVar 4)) (dCons (den2 gIx (gVar 3) (den2 gAdd (gVar 4) (gVar 2))) dNil))))))
def t_joined_table_4 : DenS := (dAsg (dTup (dCons (den2 gIx (gVar 1) (den2 gAdd (gVar 4) (gVar 2))) (dCons (den2 gIx (gVar 1) (gVar 4)) dNil))) (gTupT 2 (gConsT (gSubT 1 (gVar 4)) (gConsT (gSubT 1 (den2 gAdd (gVar 4) (gVar 2))) gNilT))))
def t_joined_table_5 : DenS := (dIfS b_joined_table_1 t_joined_table_4 dNx)
def l_joined_table_1 : DenS := t_joined_table_5
def t_joined_table_6 : DenS := (dFor [4] (iRange1 (dCons (dFrz 2) dNil)) (gNameT 4) l_joined_table_1)
def t_joined_table_7 : DenS := (dRet (gVar 1))
def d_joined_table : DenS := (dSeq t_joined_table_1
  (dSeq t_joined_table_2
  (dSeq t_joined_table_3
  (dSeq t_joined_table_6
  t_joined_table_7))))
def f_joined_table : List T → Option L := bodyP 1 5 d_joined_table
theorem ok_joined_table (F : Fun K "joined_table" "joined_table" s_joined_table f fd) (hmg : mg "joined_table" = some (.ref f)) (hb : Binds K fd ["table"] []) (c_all_tuples : Fn P w K mg base fa k "all_tuples" 2 (pureF f_all_tuples)) (c_are_apart : Fn P w K mg base fa k "are_apart" 3 (pureF f_are_apart)) (c_size_of_table : Fn P w K mg base fa k "size_of_table" 1 (pureF f_size_of_table)) (m_len : mg "len" = none) (m_list : mg "list" = none) (m_range : mg "range" = none) : Fn P w K mg base fa (k + 1) "joined_table" 1 (pureF f_joined_table) :=
  fn_pure (as := [1, 2, 3, 4]) (d := d_joined_table) F sc_joined_table hmg hb fun cdv A outer s H E hr => (SSs.cons (SS.st (i := 1) sc_joined_table.nd (by rfl) (by rfl) (SE.list1 (by rfl) m_list (SE.v 0 (by rfl) (by rfl) (by rfl) (by rfl)) (by rfl)) (by rfl) (by rfl))
      (SSs.cons (SS.st (i := 2) sc_joined_table.nd (by rfl) (by rfl) (SE.div (SE.len (by rfl) m_len (SE.v 0 (by rfl) (by rfl) (by rfl) (by rfl)) (by rfl)) SE.int) (by rfl) (by rfl))
      (SSs.cons (SS.st (i := 3) sc_joined_table.nd (by rfl) (by rfl) (SE.callP c_all_tuples hr (by rfl) (SA.cons SE.int (SA.cons (SE.callP c_size_of_table hr (by rfl) (SA.cons (SE.v 0 (by rfl) (by rfl) (by rfl) (by rfl)) SA.nil (by rfl)) (by rfl) (by rfl) (by rfl)) SA.nil (by rfl)) (by rfl)) (by rfl) (by rfl) (by rfl)) (by rfl) (by rfl))
      (SSs.cons (SS.for PassesOwn.never (by rfl) (SI.range1 (by rfl) m_range (SA.cons (SE.frz (SE.v 2 (by rfl) (by rfl) (by rfl) (by rfl))) SA.nil (by rfl)) (by rfl)) (SG.n (i := 4) sc_joined_table.nd (by rfl) (by rfl) (by rfl)) (SSs.one (SS.ite (SE.truth (SE.bor (SE.callP c_are_apart hr (by rfl) (SA.cons (SE.v 1 (by rfl) (by rfl) (by rfl) (by rfl)) (SA.cons (SE.ix (SE.v 3 (by rfl) (by rfl) (by rfl) (by rfl)) (SE.v 4 (by rfl) (by rfl) (by rfl) (by rfl)) (fun _ _ => (by rfl))) (SA.cons (SE.ix (SE.v 3 (by rfl) (by rfl) (by rfl) (by rfl)) (SE.add (SE.v 4 (by rfl) (by rfl) (by rfl) (by rfl)) (SE.v 2 (by rfl) (by rfl) (by rfl) (by rfl))) (fun _ _ => (by rfl))) SA.nil (by rfl)) (by rfl)) (by rfl)) (by rfl) (by rfl) (by rfl))) (fun _ => (by rfl))) (SSs.one (SS.asgM (SE.tup (SA.cons (SE.ix (SE.v 1 (by rfl) (by rfl) (by rfl) (by rfl)) (SE.add (SE.v 4 (by rfl) (by rfl) (by rfl) (by rfl)) (SE.v 2 (by rfl) (by rfl) (by rfl) (by rfl))) (fun _ _ => (by rfl))) (SA.cons (SE.ix (SE.v 1 (by rfl) (by rfl) (by rfl) (by rfl)) (SE.v 4 (by rfl) (by rfl) (by rfl) (by rfl)) (fun _ _ => (by rfl))) SA.nil (by rfl)) (by rfl))) (SM.tup (n := 2) (by rfl) (SMs.cons (SM.sub (j := 1) (by rfl) (vis_of (by rfl)) (by rfl) (by rfl) (SE.v 4 (by rfl) (by rfl) (by rfl) (by rfl)) (fun _ => (by rfl))) (SMs.cons (SM.sub (j := 1) (by rfl) (vis_of (by rfl)) (by rfl) (by rfl) (SE.add (SE.v 4 (by rfl) (by rfl) (by rfl) (by rfl)) (SE.v 2 (by rfl) (by rfl) (by rfl) (by rfl))) (fun _ => (by rfl))) SMs.nil (by rfl)) (by rfl)) (by rfl) (by rfl)) (by rfl) (by rfl) (by rfl))) SSs.nil)) (fun _ => (by rfl)))
      (SSs.one (SS.ret (SE.v 1 (by rfl) (by rfl) (by rfl) (by rfl))))))))
abbrev s_row_of_table : Stmt := topS 12
theorem sc_row_of_table : FnScope ["table", "state"] ["table"] (defScope s_row_of_table) := ⟨rfl, rfl, rfl, by decide +kernel, rfl, by decide +kernel, by decide +kernel⟩
def E_row_of_table (table state : L) : REnv := [table, state]
def c_row_of_table_1 : Den := (compD (iSeq (dCallP 2 f_table_states (dCons (gVar 0) (dCons (den1 gTuple (den2 gMul (dLst (dCons (gC (.int 0)) dNil)) (dCallP 1 f_size_of_table (dCons (gVar 0) dNil)))) dNil)))) [1] (gNameT 1) dYes (den2 gIx (gVar 1) (gC (.int 0))))
def t_row_of_table_1 : DenS := (dRet c_row_of_table_1)
def d_row_of_table : DenS := t_row_of_table_1
def f_row_of_table : List T → Option L := bodyP 1 2 d_row_of_table
theorem ok_row_of_table (F : Fun K "row_of_table" "row_of_table" s_row_of_table f fd) (hmg : mg "row_of_table" = some (.ref f)) (hb : Binds K fd ["table"] []) (c_size_of_table : Fn P w K mg base fa k "size_of_table" 1 (pureF f_size_of_table)) (c_table_states : Fn P w K mg base fa k "table_states" 2 (pureF f_table_states)) (m_tuple : mg "tuple" = none) : Fn P w K mg base fa (k + 1) "row_of_table" 1 (pureF f_row_of_table) :=
  fn_pure (as := []) (d := d_row_of_table) F sc_row_of_table hmg hb fun cdv A outer s H E hr => (SSs.one (SS.ret (SE.lc (by rfl) (by rfl) sc_row_of_table.nd (SI.seq (SE.callP c_table_states hr (by rfl) (SA.cons (SE.v 0 (by rfl) (by rfl) (by rfl) (by rfl)) (SA.cons (SE.tuple1 (by rfl) m_tuple (SE.mul (SE.lst (SA.cons SE.int SA.nil (by rfl))) (SE.callP c_size_of_table hr (by rfl) (SA.cons (SE.v 0 (by rfl) (by rfl) (by rfl) (by rfl)) SA.nil (by rfl)) (by rfl) (by rfl) (by rfl))) (by rfl)) SA.nil (by rfl)) (by rfl)) (by rfl) (by rfl) (by rfl))) (blkOk_by (own := [("state", 1)]) (N := ["table", "state"]) (sc := defScope s_row_of_table) (by decide +kernel)) (by decide) (fun _ _ _ _ _ => (SG.n (i := 1) sc_row_of_table.nd (by rfl) (by rfl) (by rfl))) (fun _ _ _ _ _ => STs.nil) (fun _ _ _ _ _ => (SE.ix (SE.v 1 (by rfl) (by rfl) (by rfl) (by rfl)) SE.int (fun _ _ => (by rfl)))) (fun _ => (by rfl)))))
abbrev s_count_greatest_rounds : Stmt := topS 13
theorem sc_count_greatest_rounds : FnScope ["n"] ["n"] (defScope s_count_greatest_rounds) := ⟨rfl, rfl, rfl, by decide +kernel, rfl, by decide +kernel, by decide +kernel⟩
def E_count_greatest_rounds (n : L) : REnv := [n]
def t_count_greatest_rounds_1 : DenS := (dRet (dCallP 2 f_power_of (dCons (gC (.int 2)) (dCons (den2 gSub (dCallP 2 f_power_of (dCons (gC (.int 2)) (dCons (den2 gSub (gVar 0) (gC (.int 1))) dNil))) (gVar 0)) dNil))))
def d_count_greatest_rounds : DenS := t_count_greatest_rounds_1
def f_count_greatest_rounds : List T → Option L := bodyP 1 1 d_count_greatest_rounds
theorem ok_count_greatest_rounds (F : Fun K "count_greatest_rounds" "count_greatest_rounds" s_count_greatest_rounds f fd) (hmg : mg "count_greatest_rounds" = some (.ref f)) (hb : Binds K fd ["n"] []) (c_power_of : Fn P w K mg base fa k "power_of" 2 (pureF f_power_of)) : Fn P w K mg base fa (k + 1) "count_greatest_rounds" 1 (pureF f_count_greatest_rounds) :=
  fn_pure (as := []) (d := d_count_greatest_rounds) F sc_count_greatest_rounds hmg hb fun cdv A outer s H E hr => (SSs.one (SS.ret (SE.callP c_power_of hr (by rfl) (SA.cons SE.int (SA.cons (SE.sub (SE.callP c_power_of hr (by rfl) (SA.cons SE.int (SA.cons (SE.sub (SE.v 0 (by rfl) (by rfl) (by rfl) (by rfl)) SE.int) SA.nil (by rfl)) (by rfl)) (by rfl) (by rfl) (by rfl)) (SE.v 0 (by rfl) (by rfl) (by rfl) (by rfl))) SA.nil (by rfl)) (by rfl)) (by rfl) (by rfl) (by rfl))))
abbrev s__law_feed : Stmt := topS 15
theorem sc__law_feed : FnScope ["script"] ["script"] (defScope s__law_feed) := ⟨rfl, rfl, rfl, by decide +kernel, rfl, by decide +kernel, by decide +kernel⟩
def E__law_feed (script : L) : REnv := [script]
def t__law_feed_1 : DenS := (dRet (dLst (dCons (den1 gList (gVar 0)) (dCons (gC (.int 0)) (dCons (gC (.int 0)) (dCons (gC (.int 1)) dNil))))))
def d__law_feed : DenS := t__law_feed_1
def f__law_feed : List T → Option L := bodyP 1 1 d__law_feed
theorem ok__law_feed (F : Fun K "_law_feed" "_law_feed" s__law_feed f fd) (hmg : mg "_law_feed" = some (.ref f)) (hb : Binds K fd ["script"] []) (m_list : mg "list" = none) : Fn P w K mg base fa (k + 1) "_law_feed" 1 (pureF f__law_feed) :=
  fn_pure (as := []) (d := d__law_feed) F sc__law_feed hmg hb fun cdv A outer s H E hr => (SSs.one (SS.ret (SE.lst (SA.cons (SE.list1 (by rfl) m_list (SE.v 0 (by rfl) (by rfl) (by rfl) (by rfl)) (by rfl)) (SA.cons SE.int (SA.cons SE.int (SA.cons SE.int SA.nil (by rfl)) (by rfl)) (by rfl)) (by rfl)))))
abbrev s__law_draw : Stmt := topS 16
theorem sc__law_draw : FnScope ["feed", "many", "cell", "told", "mixed"] ["feed", "many"] (defScope s__law_draw) := ⟨rfl, rfl, rfl, by decide +kernel, rfl, by decide +kernel, by decide +kernel⟩
def E__law_draw (feed many cell told mixed : L) : REnv := [feed, many, cell, told, mixed]
def b__law_draw_1 : DenT := (dAnd (dBl (den2 (gB gEq) (den2 gIx (gVar 0) (gC (.int 2))) (gC (.int 0)))) (dBl (den2 (gB gLt) (den2 gIx (gVar 0) (gC (.int 1))) (den1 gLen (den2 gIx (gVar 0) (gC (.int 0)))))))
def t__law_draw_1 : DenS := (dSet 2 (den1 gAbs (den1 gInt (den2 gIx (den2 gIx (gVar 0) (gC (.int 0))) (den2 gIx (gVar 0) (gC (.int 1)))))))
def t__law_draw_2 : DenS := (dAugS 0 gIAdd (gC (.int 1)) (gC (.int 1)))
def b__law_draw_2 : DenT := (dBl (den2 (gB gGe) (gVar 2) (den2 gPow (gC (.int 10)) (gC (.int 18)))))
def t__law_draw_3 : DenS := (dAsg (gVar 2) (gSubT 0 (gC (.int 2))))
def t__law_draw_4 : DenS := (dAsg (den2 gMod (den1 gInt (den2 gAdd (den2 gAdd (den2 gMul (den2 gIx (gVar 0) (gC (.int 3))) (gC (.int 48271))) (den2 gMul (gVar 2) (gC (.int 69621)))) (den2 gIx (gVar 0) (gC (.int 1))))) (gC (.int 2147483647))) (gSubT 0 (gC (.int 3))))
def t__law_draw_5 : DenS := (dIfS b__law_draw_2 t__law_draw_3 t__law_draw_4)
def t__law_draw_6 : DenS := (dIfS b__law_draw_1 (dSeq t__law_draw_1
  (dSeq t__law_draw_2
  t__law_draw_5)) dNx)
def b__law_draw_3 : DenT := (dBl (den2 (gB gGt) (den2 gIx (gVar 0) (gC (.int 2))) (gC (.int 0))))
def t__law_draw_7 : DenS := (dSet 3 (den2 gMod (den1 gInt (den2 gIx (gVar 0) (gC (.int 2)))) (gVar 1)))
def t__law_draw_8 : DenS := (dAsg (den2 gDiv (den2 gIx (gVar 0) (gC (.int 2))) (gVar 1)) (gSubT 0 (gC (.int 2))))
def t__law_draw_9 : DenS := (dRet (gVar 3))
def t__law_draw_10 : DenS := (dIfS b__law_draw_3 (dSeq t__law_draw_7
  (dSeq t__law_draw_8
  t__law_draw_9)) dNx)
def t__law_draw_11 : DenS := (dAsg (den2 gMod (den1 gInt (den2 gAdd (den2 gMul (den2 gIx (gVar 0) (gC (.int 3))) (gC (.int 16807))) (gC (.int 12345)))) (gC (.int 2147483647))) (gSubT 0 (gC (.int 3))))
def t__law_draw_12 : DenS := (dSet 4 (den2 gMod (den1 gInt (den2 gAdd (den2 gMul (den2 gIx (gVar 0) (gC (.int 3))) (den2 gIx (gVar 0) (gC (.int 3)))) (den2 gIx (gVar 0) (gC (.int 3))))) (gC (.int 2147483629))))
def t__law_draw_13 : DenS := (dRet (den2 gMod (den2 gDiv (gVar 4) (gC (.int 11))) (gVar 1)))
def d__law_draw : DenS := (dSeq t__law_draw_6
  (dSeq t__law_draw_10
  (dSeq t__law_draw_11
  (dSeq t__law_draw_12
  t__law_draw_13))))
def g__law_draw : List T → List T → Option (L × List T) := bodyF 2 5 [2, 3, 4] d__law_draw
theorem ok__law_draw (F : Fun K "_law_draw" "_law_draw" s__law_draw f fd) (hmg : mg "_law_draw" = some (.ref f)) (hb : Binds K fd ["feed", "many"] []) (m_abs : mg "abs" = none) (m_int : mg "int" = none) (m_len : mg "len" = none) : Fn P w K mg base fa (k + 1) "_law_draw" 2 (feedF g__law_draw) :=
  fn_feed (as := [2, 3, 4]) (d := d__law_draw) F sc__law_draw hmg hb fun cdv A outer s H E hr => (SSs.cons (SS.ite (SW.test (SW.and (ST.cmp (SE.ix (SE.v 0 (by rfl) (by rfl) (by rfl) (by rfl)) SE.int (fun _ _ => (by rfl))) SE.int (cmp_eq (room64 hr)) (by rfl)) (SW.and1 (ST.cmp (SE.ix (SE.v 0 (by rfl) (by rfl) (by rfl) (by rfl)) SE.int (fun _ _ => (by rfl))) (SE.len (by rfl) m_len (SE.ix (SE.v 0 (by rfl) (by rfl) (by rfl) (by rfl)) SE.int (fun _ _ => (by rfl))) (by rfl)) (cmp_lt) (by rfl))))) (SSs.cons (SS.st (i := 2) sc__law_draw.nd (by rfl) (by rfl) (SE.abs (by rfl) m_abs (SE.int1 (by rfl) m_int (SE.ix (SE.ix (SE.v 0 (by rfl) (by rfl) (by rfl) (by rfl)) SE.int (fun _ _ => (by rfl))) (SE.ix (SE.v 0 (by rfl) (by rfl) (by rfl) (by rfl)) SE.int (fun _ _ => (by rfl))) (fun _ _ => (by rfl))) (by rfl)) (by rfl)) (by rfl) (by rfl))
      (SSs.cons (SS.augS (j := 0) (by rfl) (vis_of (by rfl)) (by rfl) (by rfl) SE.int SE.int iop_addT opt_iadd (fun _ _ _ => (by rfl)))
      (SSs.one (SS.ite (ST.cmp (SE.v 2 (by rfl) (by rfl) (by rfl) (by rfl)) (SE.pow SE.int SE.int) (cmp_ge) (by rfl)) (SSs.one (SS.asgM (SE.v 2 (by rfl) (by rfl) (by rfl) (by rfl)) (SM.sub (j := 0) (by rfl) (vis_of (by rfl)) (by rfl) (by rfl) SE.int (fun _ => (by rfl))) (by rfl) (by rfl) (by rfl))) (SSs.one (SS.asgM (SE.mod (SE.int1 (by rfl) m_int (SE.add (SE.add (SE.mul (SE.ix (SE.v 0 (by rfl) (by rfl) (by rfl) (by rfl)) SE.int (fun _ _ => (by rfl))) SE.int) (SE.mul (SE.v 2 (by rfl) (by rfl) (by rfl) (by rfl)) SE.int)) (SE.ix (SE.v 0 (by rfl) (by rfl) (by rfl) (by rfl)) SE.int (fun _ _ => (by rfl)))) (by rfl)) SE.int) (SM.sub (j := 0) (by rfl) (vis_of (by rfl)) (by rfl) (by rfl) SE.int (fun _ => (by rfl))) (by rfl) (by rfl) (by rfl))))))) SSs.nil)
      (SSs.cons (SS.ite (ST.cmp (SE.ix (SE.v 0 (by rfl) (by rfl) (by rfl) (by rfl)) SE.int (fun _ _ => (by rfl))) SE.int (cmp_gt) (by rfl)) (SSs.cons (SS.st (i := 3) sc__law_draw.nd (by rfl) (by rfl) (SE.mod (SE.int1 (by rfl) m_int (SE.ix (SE.v 0 (by rfl) (by rfl) (by rfl) (by rfl)) SE.int (fun _ _ => (by rfl))) (by rfl)) (SE.v 1 (by rfl) (by rfl) (by rfl) (by rfl))) (by rfl) (by rfl))
      (SSs.cons (SS.asgM (SE.div (SE.ix (SE.v 0 (by rfl) (by rfl) (by rfl) (by rfl)) SE.int (fun _ _ => (by rfl))) (SE.v 1 (by rfl) (by rfl) (by rfl) (by rfl))) (SM.sub (j := 0) (by rfl) (vis_of (by rfl)) (by rfl) (by rfl) SE.int (fun _ => (by rfl))) (by rfl) (by rfl) (by rfl))
      (SSs.one (SS.ret (SE.v 3 (by rfl) (by rfl) (by rfl) (by rfl)))))) SSs.nil)
      (SSs.cons (SS.asgM (SE.mod (SE.int1 (by rfl) m_int (SE.add (SE.mul (SE.ix (SE.v 0 (by rfl) (by rfl) (by rfl) (by rfl)) SE.int (fun _ _ => (by rfl))) SE.int) SE.int) (by rfl)) SE.int) (SM.sub (j := 0) (by rfl) (vis_of (by rfl)) (by rfl) (by rfl) SE.int (fun _ => (by rfl))) (by rfl) (by rfl) (by rfl))
      (SSs.cons (SS.st (i := 4) sc__law_draw.nd (by rfl) (by rfl) (SE.mod (SE.int1 (by rfl) m_int (SE.add (SE.mul (SE.ix (SE.v 0 (by rfl) (by rfl) (by rfl) (by rfl)) SE.int (fun _ _ => (by rfl))) (SE.ix (SE.v 0 (by rfl) (by rfl) (by rfl) (by rfl)) SE.int (fun _ _ => (by rfl)))) (SE.ix (SE.v 0 (by rfl) (by rfl) (by rfl) (by rfl)) SE.int (fun _ _ => (by rfl)))) (by rfl)) SE.int) (by rfl) (by rfl))
      (SSs.one (SS.ret (SE.mod (SE.div (SE.v 4 (by rfl) (by rfl) (by rfl) (by rfl)) SE.int) (SE.v 1 (by rfl) (by rfl) (by rfl) (by rfl)))))))))
abbrev s__law_tuples : Stmt := topS 17
theorem sc__law_tuples : FnScope ["p", "many", "found", "step", "longer", "own", "k"] ["p", "many"] (defScope s__law_tuples) := ⟨rfl, rfl, rfl, by decide +kernel, rfl, by decide +kernel, by decide +kernel⟩
def E__law_tuples (p many found step longer own k : L) : REnv := [p, many, found, step, longer, own, k]
def t__law_tuples_1 : DenS := (dSet 2 (dLst (dCons (dTup dNil) dNil)))
def t__law_tuples_2 : DenS := (dSet 4 (dLst dNil))
def c__law_tuples_1 : Den := (compD (iRange1 (dCons (gVar 0) dNil)) [6] (gNameT 6) dYes (den2 gAdd (gVar 5) (dTup (dCons (gVar 6) dNil))))
def t__law_tuples_3 : DenS := (dSet 4 (den2 gAdd (gVar 4) c__law_tuples_1))
def l__law_tuples_1 : DenS := t__law_tuples_3
def t__law_tuples_4 : DenS := (dFor [5, 4] (iSeq (gVar 2)) (gNameT 5) l__law_tuples_1)
def t__law_tuples_5 : DenS := (dMove 2 4)
def l__law_tuples_2 : DenS := (dSeq t__law_tuples_2
  (dSeq t__law_tuples_4
  t__law_tuples_5))
def t__law_tuples_6 : DenS := (dFor [3, 4, 5, 4, 2] (iRange1 (dCons (gVar 1) dNil)) (gNameT 3) l__law_tuples_2)
def t__law_tuples_7 : DenS := (dRet (gVar 2))
def d__law_tuples : DenS := (dSeq t__law_tuples_1
  (dSeq t__law_tuples_6
  t__law_tuples_7))
def f__law_tuples : List T → Option L := bodyP 2 7 d__law_tuples
theorem ok__law_tuples (F : Fun K "_law_tuples" "_law_tuples" s__law_tuples f fd) (hmg : mg "_law_tuples" = some (.ref f)) (hb : Binds K fd ["p", "many"] []) (m_range : mg "range" = none) : Fn P w K mg base fa (k + 1) "_law_tuples" 2 (pureF f__law_tuples) :=
  fn_pure (as := [2, 3, 4, 5, 4, 2]) (d := d__law_tuples) F sc__law_tuples hmg hb fun cdv A outer s H E hr => (SSs.cons (SS.st (i := 2) sc__law_tuples.nd (by rfl) (by rfl) (SE.lst (SA.cons (SE.tup SA.nil) SA.nil (by rfl))) (by rfl) (by rfl))
      (SSs.cons (SS.for PassesOwn.never (by rfl) (SI.range1 (by rfl) m_range (SA.cons (SE.v 1 (by rfl) (by rfl) (by rfl) (by rfl)) SA.nil (by rfl)) (by rfl)) (SG.n (i := 3) sc__law_tuples.nd (by rfl) (by rfl) (by rfl)) (SSs.cons (SS.st (i := 4) sc__law_tuples.nd (by rfl) (by rfl) (SE.lst SA.nil) (by rfl) (by rfl))
      (SSs.cons (SS.for PassesOwn.never (by rfl) (SI.seq (SE.v 2 (by rfl) (by rfl) (by rfl) (by rfl))) (SG.n (i := 5) sc__law_tuples.nd (by rfl) (by rfl) (by rfl)) (SSs.one (SS.st (i := 4) sc__law_tuples.nd (by rfl) (by rfl) (SE.add (SE.v 4 (by rfl) (by rfl) (by rfl) (by rfl)) (SE.lc (by rfl) (by rfl) sc__law_tuples.nd (SI.range1 (by rfl) m_range (SA.cons (SE.v 0 (by rfl) (by rfl) (by rfl) (by rfl)) SA.nil (by rfl)) (by rfl)) (blkOk_by (own := [("k", 6)]) (N := ["p", "many", "found", "step", "longer", "own", "k"]) (sc := defScope s__law_tuples) (by decide +kernel)) (by decide) (fun _ _ _ _ _ => (SG.n (i := 6) sc__law_tuples.nd (by rfl) (by rfl) (by rfl))) (fun _ _ _ _ _ => STs.nil) (fun _ _ _ _ _ => (SE.add (SE.v 5 (by rfl) (by rfl) (by rfl) (by rfl)) (SE.tup (SA.cons (SE.v 6 (by rfl) (by rfl) (by rfl) (by rfl)) SA.nil (by rfl))))) (fun _ => (by rfl)))) (by rfl) (by rfl))) (fun _ => (by rfl)))
      (SSs.one (SS.move (i := 2) (j := 4) sc__law_tuples.nd (by rfl) (by rfl) (SE.v 4 (by rfl) (by rfl) (by rfl) (by rfl)) (by rfl) (by rfl))))) (fun _ => (by rfl)))
      (SSs.one (SS.ret (SE.v 2 (by rfl) (by rfl) (by rfl) (by rfl))))))
abbrev s__law_alike : Stmt := topS 18
theorem sc__law_alike : FnScope ["told", "due", "j"] ["told", "due"] (defScope s__law_alike) := ⟨rfl, rfl, rfl, by decide +kernel, rfl, by decide +kernel, by decide +kernel⟩
def E__law_alike (told due j : L) : REnv := [told, due, j]
def b__law_alike_1 (fr : List T → Option L) : DenT := (dOr (dTru (den1 (gIsi "list") (gVar 1))) (dTru (den1 (gIsi "tuple") (gVar 1))))
def b__law_alike_2 (fr : List T → Option L) : DenT := (dOr (dBl (den2 (gB gNe) (den1 (gIsi "list") (gVar 0)) (den1 (gIsi "list") (gVar 1)))) (dBl (den2 (gB gNe) (den1 (gIsi "tuple") (gVar 0)) (den1 (gIsi "tuple") (gVar 1)))))
def t__law_alike_1 (fr : List T → Option L) : DenS := (dRet (gC (.bl false)))
def t__law_alike_2 (fr : List T → Option L) : DenS := (dIfS (b__law_alike_2 fr) (t__law_alike_1 fr) dNx)
def b__law_alike_3 (fr : List T → Option L) : DenT := (dBl (den2 (gB gNe) (den1 gLen (gVar 0)) (den1 gLen (gVar 1))))
def t__law_alike_3 (fr : List T → Option L) : DenS := (dRet (gC (.bl false)))
def t__law_alike_4 (fr : List T → Option L) : DenS := (dIfS (b__law_alike_3 fr) (t__law_alike_3 fr) dNx)
def c__law_alike_1 (fr : List T → Option L) : Den := (compD (iRange1 (dCons (den1 gLen (gVar 1)) dNil)) [2] (gNameT 2) (dNot (dTru (dCallP 2 fr (dCons (den2 gIx (gVar 0) (gVar 2)) (dCons (den2 gIx (gVar 1) (gVar 2)) dNil))))) (gVar 2))
def t__law_alike_5 (fr : List T → Option L) : DenS := (dRet (den2 (gB gEq) (den1 gLen (c__law_alike_1 fr)) (gC (.int 0))))
def t__law_alike_6 (fr : List T → Option L) : DenS := (dIfS (b__law_alike_1 fr) (dSeq (t__law_alike_2 fr)
  (dSeq (t__law_alike_4 fr)
  (t__law_alike_5 fr))) dNx)
def b__law_alike_4 (fr : List T → Option L) : DenT := (dBl (den2 (gB gIs) (gVar 1) (gC .non)))
def t__law_alike_7 (fr : List T → Option L) : DenS := (dRet (den2 (gB gIs) (gVar 0) (gC .non)))
def t__law_alike_8 (fr : List T → Option L) : DenS := (dIfS (b__law_alike_4 fr) (t__law_alike_7 fr) dNx)
def b__law_alike_5 (fr : List T → Option L) : DenT := (dTru (den1 (gIsi "bool") (gVar 1)))
def t__law_alike_9 (fr : List T → Option L) : DenS := (dRet (dAndV (den1 (gIsi "bool") (gVar 0)) (den2 (gB gEq) (gVar 0) (gVar 1))))
def t__law_alike_10 (fr : List T → Option L) : DenS := (dIfS (b__law_alike_5 fr) (t__law_alike_9 fr) dNx)
def b__law_alike_6 (fr : List T → Option L) : DenT := (dTru (den1 (gIsi "int") (gVar 1)))
def t__law_alike_11 (fr : List T → Option L) : DenS := (dRet (dAndV (den1 (gIsi "int") (gVar 0)) (dAndV (dNotV (den1 (gIsi "bool") (gVar 0))) (den2 (gB gEq) (gVar 0) (gVar 1)))))
def t__law_alike_12 (fr : List T → Option L) : DenS := (dIfS (b__law_alike_6 fr) (t__law_alike_11 fr) dNx)
def t__law_alike_13 (fr : List T → Option L) : DenS := (dRet (dAndV (den1 (gIsi "str") (gVar 0)) (den2 (gB gEq) (gVar 0) (gVar 1))))
def d__law_alike (fr : List T → Option L) : DenS := (dSeq (t__law_alike_6 fr)
  (dSeq (t__law_alike_8 fr)
  (dSeq (t__law_alike_10 fr)
  (dSeq (t__law_alike_12 fr)
  (t__law_alike_13 fr)))))
def f__law_alike : Nat → List T → Option L
  | 0 => fun _ => none
  | q + 1 => bodyP 2 3 (d__law_alike (f__law_alike q))
theorem ok__law_alike {fr : List T → Option L} (F : Fun K "_law_alike" "_law_alike" s__law_alike f fd) (hmg : mg "_law_alike" = some (.ref f)) (hb : Binds K fd ["told", "due"] []) (c__law_alike : Fn P w K mg base fa k "_law_alike" 2 (pureF fr)) (m_bool : mg "bool" = none) (m_int : mg "int" = none) (m_isinstance : mg "isinstance" = none) (m_len : mg "len" = none) (m_list : mg "list" = none) (m_range : mg "range" = none) (m_str : mg "str" = none) (m_tuple : mg "tuple" = none) : Fn P w K mg base fa (k + 1) "_law_alike" 2 (pureF (bodyP 2 3 (d__law_alike fr))) :=
  fn_pure (as := []) (d := (d__law_alike fr)) F sc__law_alike hmg hb fun cdv A outer s H E hr => (SSs.cons (SS.ite (SW.test (SW.or (SE.truth (SE.isi (by rfl) m_isinstance (by rfl) m_list (by decide +kernel) (by decide) (by rfl) (SE.v 1 (by rfl) (by rfl) (by rfl) (by rfl)) (by rfl)) (fun _ => (by rfl))) (SW.or1 (SE.truth (SE.isi (by rfl) m_isinstance (by rfl) m_tuple (by decide +kernel) (by decide) (by rfl) (SE.v 1 (by rfl) (by rfl) (by rfl) (by rfl)) (by rfl)) (fun _ => (by rfl)))))) (SSs.cons (SS.ite (SW.test (SW.or (ST.cmp (SE.isi (by rfl) m_isinstance (by rfl) m_list (by decide +kernel) (by decide) (by rfl) (SE.v 0 (by rfl) (by rfl) (by rfl) (by rfl)) (by rfl)) (SE.isi (by rfl) m_isinstance (by rfl) m_list (by decide +kernel) (by decide) (by rfl) (SE.v 1 (by rfl) (by rfl) (by rfl) (by rfl)) (by rfl)) (cmp_ne (room64 hr)) (by rfl)) (SW.or1 (ST.cmp (SE.isi (by rfl) m_isinstance (by rfl) m_tuple (by decide +kernel) (by decide) (by rfl) (SE.v 0 (by rfl) (by rfl) (by rfl) (by rfl)) (by rfl)) (SE.isi (by rfl) m_isinstance (by rfl) m_tuple (by decide +kernel) (by decide) (by rfl) (SE.v 1 (by rfl) (by rfl) (by rfl) (by rfl)) (by rfl)) (cmp_ne (room64 hr)) (by rfl))))) (SSs.one (SS.ret SE.bl)) SSs.nil)
      (SSs.cons (SS.ite (ST.cmp (SE.len (by rfl) m_len (SE.v 0 (by rfl) (by rfl) (by rfl) (by rfl)) (by rfl)) (SE.len (by rfl) m_len (SE.v 1 (by rfl) (by rfl) (by rfl) (by rfl)) (by rfl)) (cmp_ne (room64 hr)) (by rfl)) (SSs.one (SS.ret SE.bl)) SSs.nil)
      (SSs.one (SS.ret (SE.cmp (SE.len (by rfl) m_len (SE.lc (by rfl) (by rfl) sc__law_alike.nd (SI.range1 (by rfl) m_range (SA.cons (SE.len (by rfl) m_len (SE.v 1 (by rfl) (by rfl) (by rfl) (by rfl)) (by rfl)) SA.nil (by rfl)) (by rfl)) (blkOk_by (own := [("j", 2)]) (N := ["told", "due", "j"]) (sc := defScope s__law_alike) (by decide +kernel)) (by decide) (fun _ _ _ _ _ => (SG.n (i := 2) sc__law_alike.nd (by rfl) (by rfl) (by rfl))) (fun _ _ _ _ _ => (STs.one (ST.not (SE.truth (SE.callP c__law_alike hr (by rfl) (SA.cons (SE.ix (SE.v 0 (by rfl) (by rfl) (by rfl) (by rfl)) (SE.v 2 (by rfl) (by rfl) (by rfl) (by rfl)) (fun _ _ => (by rfl))) (SA.cons (SE.ix (SE.v 1 (by rfl) (by rfl) (by rfl) (by rfl)) (SE.v 2 (by rfl) (by rfl) (by rfl) (by rfl)) (fun _ _ => (by rfl))) SA.nil (by rfl)) (by rfl)) (by rfl) (by rfl) (by rfl)) (fun _ => (by rfl)))))) (fun _ _ _ _ _ => (SE.v 2 (by rfl) (by rfl) (by rfl) (by rfl))) (fun _ => (by rfl))) (by rfl)) SE.int (cmp_eq (room64 hr)) (by rfl)))))) SSs.nil)
      (SSs.cons (SS.ite (ST.cmp (SE.v 1 (by rfl) (by rfl) (by rfl) (by rfl)) SE.non (cmp_is) (by rfl)) (SSs.one (SS.ret (SE.cmp (SE.v 0 (by rfl) (by rfl) (by rfl) (by rfl)) SE.non (cmp_is) (by rfl)))) SSs.nil)
      (SSs.cons (SS.ite (SE.truth (SE.isi (by rfl) m_isinstance (by rfl) m_bool (by decide +kernel) (by decide) (by rfl) (SE.v 1 (by rfl) (by rfl) (by rfl) (by rfl)) (by rfl)) (fun _ => (by rfl))) (SSs.one (SS.ret (SE.andV (SE.isi (by rfl) m_isinstance (by rfl) m_bool (by decide +kernel) (by decide) (by rfl) (SE.v 0 (by rfl) (by rfl) (by rfl) (by rfl)) (by rfl)) (SE.one (SE.cmp (SE.v 0 (by rfl) (by rfl) (by rfl) (by rfl)) (SE.v 1 (by rfl) (by rfl) (by rfl) (by rfl)) (cmp_eq (room64 hr)) (by rfl)))))) SSs.nil)
      (SSs.cons (SS.ite (SE.truth (SE.isi (by rfl) m_isinstance (by rfl) m_int (by decide +kernel) (by decide) (by rfl) (SE.v 1 (by rfl) (by rfl) (by rfl) (by rfl)) (by rfl)) (fun _ => (by rfl))) (SSs.one (SS.ret (SE.andV (SE.isi (by rfl) m_isinstance (by rfl) m_int (by decide +kernel) (by decide) (by rfl) (SE.v 0 (by rfl) (by rfl) (by rfl) (by rfl)) (by rfl)) (SE.andV (SE.notV (SE.isi (by rfl) m_isinstance (by rfl) m_bool (by decide +kernel) (by decide) (by rfl) (SE.v 0 (by rfl) (by rfl) (by rfl) (by rfl)) (by rfl))) (SE.one (SE.cmp (SE.v 0 (by rfl) (by rfl) (by rfl) (by rfl)) (SE.v 1 (by rfl) (by rfl) (by rfl) (by rfl)) (cmp_eq (room64 hr)) (by rfl))))))) SSs.nil)
      (SSs.one (SS.ret (SE.andV (SE.isi (by rfl) m_isinstance (by rfl) m_str (by decide +kernel) (by decide) (by rfl) (SE.v 0 (by rfl) (by rfl) (by rfl) (by rfl)) (by rfl)) (SE.one (SE.cmp (SE.v 0 (by rfl) (by rfl) (by rfl) (by rfl)) (SE.v 1 (by rfl) (by rfl) (by rfl) (by rfl)) (cmp_eq (room64 hr)) (by rfl))))))))))
abbrev s__law_walk : Stmt := topS 19
theorem sc__law_walk : FnScope ["table", "at", "found", "half", "step"] ["table", "at"] (defScope s__law_walk) := ⟨rfl, rfl, rfl, by decide +kernel, rfl, by decide +kernel, by decide +kernel⟩
def E__law_walk (table at_ found half step : L) : REnv := [table, at_, found, half, step]
def t__law_walk_1 : DenS := (dSet 2 (dLst dNil))
def t__law_walk_2 : DenS := (dSet 3 (den2 gDiv (den1 gLen (gVar 0)) (gC (.int 2))))
def b__law_walk_1 : DenT := (dBl (den2 (gB gIn) (gVar 1) (gVar 2)))
def t__law_walk_3 : DenS := (dIfS b__law_walk_1 dBrk dNx)
def t__law_walk_4 : DenS := (dDrop (dMeth 2 fAppend (dCons (dFrz 1) dNil)))
def t__law_walk_5 : DenS := (dSet 1 (den2 gAdd (den2 gMul (den2 gMod (den1 gInt (gVar 1)) (gVar 3)) (gC (.int 2))) (den2 gIx (gVar 0) (gVar 1))))
def l__law_walk_1 : DenS := (dSeq t__law_walk_3
  (dSeq t__law_walk_4
  t__law_walk_5))
def t__law_walk_6 : DenS := (dFor [4, 1] (iRange1 (dCons (den1 gLen (gVar 0)) dNil)) (gNameT 4) l__law_walk_1)
def t__law_walk_7 : DenS := (dRet (gVar 2))
def d__law_walk : DenS := (dSeq t__law_walk_1
  (dSeq t__law_walk_2
  (dSeq t__law_walk_6
  t__law_walk_7)))
def f__law_walk : List T → Option L := bodyP 2 5 d__law_walk
theorem ok__law_walk (F : Fun K "_law_walk" "_law_walk" s__law_walk f fd) (hmg : mg "_law_walk" = some (.ref f)) (hb : Binds K fd ["table", "at"] []) (m_int : mg "int" = none) (m_len : mg "len" = none) (m_range : mg "range" = none) : Fn P w K mg base fa (k + 1) "_law_walk" 2 (pureF f__law_walk) :=
  fn_pure (as := [2, 3, 4, 1]) (d := d__law_walk) F sc__law_walk hmg hb fun cdv A outer s H E hr => (SSs.cons (SS.st (i := 2) sc__law_walk.nd (by rfl) (by rfl) (SE.lst SA.nil) (by rfl) (by rfl))
      (SSs.cons (SS.st (i := 3) sc__law_walk.nd (by rfl) (by rfl) (SE.div (SE.len (by rfl) m_len (SE.v 0 (by rfl) (by rfl) (by rfl) (by rfl)) (by rfl)) SE.int) (by rfl) (by rfl))
      (SSs.cons (SS.for PassesOwn.never (by rfl) (SI.range1 (by rfl) m_range (SA.cons (SE.len (by rfl) m_len (SE.v 0 (by rfl) (by rfl) (by rfl) (by rfl)) (by rfl)) SA.nil (by rfl)) (by rfl)) (SG.n (i := 4) sc__law_walk.nd (by rfl) (by rfl) (by rfl)) (SSs.cons (SS.ite (ST.cmp (SE.v 1 (by rfl) (by rfl) (by rfl) (by rfl)) (SE.v 2 (by rfl) (by rfl) (by rfl) (by rfl)) (cmp_in (room65 hr)) (by rfl)) (SSs.one SS.brk) SSs.nil)
      (SSs.cons (SS.expr (SE.meth (i := 2) PySem.F.slot_list_append PySem.F.type_list_append mt_append me_append (by rfl) (vis_of (by rfl)) (by rfl) (by rfl) (SA.cons (SE.frz (SE.v 1 (by rfl) (by rfl) (by rfl) (by rfl))) SA.nil (by rfl)) (by rfl) (by rfl) (by rfl) (by rfl)) (by rfl))
      (SSs.one (SS.st (i := 1) sc__law_walk.nd (by rfl) (by rfl) (SE.add (SE.mul (SE.mod (SE.int1 (by rfl) m_int (SE.v 1 (by rfl) (by rfl) (by rfl) (by rfl)) (by rfl)) (SE.v 3 (by rfl) (by rfl) (by rfl) (by rfl))) SE.int) (SE.ix (SE.v 0 (by rfl) (by rfl) (by rfl) (by rfl)) (SE.v 1 (by rfl) (by rfl) (by rfl) (by rfl)) (fun _ _ => (by rfl)))) (by rfl) (by rfl))))) (fun _ => (by rfl)))
      (SSs.one (SS.ret (SE.v 2 (by rfl) (by rfl) (by rfl) (by rfl)))))))
abbrev s__law_rounds : Stmt := topS 20
theorem sc__law_rounds : FnScope ["table", "found", "met", "at", "round_here"] ["table"] (defScope s__law_rounds) := ⟨rfl, rfl, rfl, by decide +kernel, rfl, by decide +kernel, by decide +kernel⟩
def E__law_rounds (table found met at_ round_here : L) : REnv := [table, found, met, at_, round_here]
def t__law_rounds_1 : DenS := (dSet 1 (dLst dNil))
def t__law_rounds_2 : DenS := (dSet 2 (dLst dNil))
def b__law_rounds_1 : DenT := (dBl (den2 (gB gNotIn) (gVar 3) (gVar 2)))
def t__law_rounds_3 : DenS := (dSet 4 (dCallP 2 f__law_walk (dCons (gVar 0) (dCons (gVar 3) dNil))))
def t__law_rounds_4 : DenS := (dDrop (dMeth 1 fAppend (dCons (dFrz 4) dNil)))
def t__law_rounds_5 : DenS := (dSet 2 (den2 gAdd (gVar 2) (gVar 4)))
def t__law_rounds_6 : DenS := (dIfS b__law_rounds_1 (dSeq t__law_rounds_3
  (dSeq t__law_rounds_4
  t__law_rounds_5)) dNx)
def l__law_rounds_1 : DenS := t__law_rounds_6
def t__law_rounds_7 : DenS := (dFor [3, 4, 2] (iRange1 (dCons (den1 gLen (gVar 0)) dNil)) (gNameT 3) l__law_rounds_1)
def t__law_rounds_8 : DenS := (dRet (gVar 1))
def d__law_rounds : DenS := (dSeq t__law_rounds_1
  (dSeq t__law_rounds_2
  (dSeq t__law_rounds_7
  t__law_rounds_8)))
def f__law_rounds : List T → Option L := bodyP 1 5 d__law_rounds
theorem ok__law_rounds (F : Fun K "_law_rounds" "_law_rounds" s__law_rounds f fd) (hmg : mg "_law_rounds" = some (.ref f)) (hb : Binds K fd ["table"] []) (c__law_walk : Fn P w K mg base fa k "_law_walk" 2 (pureF f__law_walk)) (m_len : mg "len" = none) (m_range : mg "range" = none) : Fn P w K mg base fa (k + 1) "_law_rounds" 1 (pureF f__law_rounds) :=
  fn_pure (as := [1, 2, 3, 4, 2]) (d := d__law_rounds) F sc__law_rounds hmg hb fun cdv A outer s H E hr => (SSs.cons (SS.st (i := 1) sc__law_rounds.nd (by rfl) (by rfl) (SE.lst SA.nil) (by rfl) (by rfl))
      (SSs.cons (SS.st (i := 2) sc__law_rounds.nd (by rfl) (by rfl) (SE.lst SA.nil) (by rfl) (by rfl))
      (SSs.cons (SS.for PassesOwn.never (by rfl) (SI.range1 (by rfl) m_range (SA.cons (SE.len (by rfl) m_len (SE.v 0 (by rfl) (by rfl) (by rfl) (by rfl)) (by rfl)) SA.nil (by rfl)) (by rfl)) (SG.n (i := 3) sc__law_rounds.nd (by rfl) (by rfl) (by rfl)) (SSs.one (SS.ite (ST.cmp (SE.v 3 (by rfl) (by rfl) (by rfl) (by rfl)) (SE.v 2 (by rfl) (by rfl) (by rfl) (by rfl)) (cmp_notIn (room65 hr)) (by rfl)) (SSs.cons (SS.st (i := 4) sc__law_rounds.nd (by rfl) (by rfl) (SE.callP c__law_walk hr (by rfl) (SA.cons (SE.v 0 (by rfl) (by rfl) (by rfl) (by rfl)) (SA.cons (SE.v 3 (by rfl) (by rfl) (by rfl) (by rfl)) SA.nil (by rfl)) (by rfl)) (by rfl) (by rfl) (by rfl)) (by rfl) (by rfl))
      (SSs.cons (SS.expr (SE.meth (i := 1) PySem.F.slot_list_append PySem.F.type_list_append mt_append me_append (by rfl) (vis_of (by rfl)) (by rfl) (by rfl) (SA.cons (SE.frz (SE.v 4 (by rfl) (by rfl) (by rfl) (by rfl))) SA.nil (by rfl)) (by rfl) (by rfl) (by rfl) (by rfl)) (by rfl))
      (SSs.one (SS.st (i := 2) sc__law_rounds.nd (by rfl) (by rfl) (SE.add (SE.v 2 (by rfl) (by rfl) (by rfl) (by rfl)) (SE.v 4 (by rfl) (by rfl) (by rfl) (by rfl))) (by rfl) (by rfl))))) SSs.nil)) (fun _ => (by rfl)))
      (SSs.one (SS.ret (SE.v 1 (by rfl) (by rfl) (by rfl) (by rfl)))))))
abbrev s__law_joined : Stmt := topS 21
theorem sc__law_joined : FnScope ["table", "own", "half", "at", "bit"] ["table"] (defScope s__law_joined) := ⟨rfl, rfl, rfl, by decide +kernel, rfl, by decide +kernel, by decide +kernel⟩
def E__law_joined (table own half at_ bit : L) : REnv := [table, own, half, at_, bit]
def t__law_joined_1 : DenS := (dSet 1 (den1 gList (gVar 0)))
def t__law_joined_2 : DenS := (dSet 2 (den2 gDiv (den1 gLen (gVar 1)) (gC (.int 2))))
def b__law_joined_1 : DenT := (dBl (den2 (gB gNotIn) (den2 gAdd (gVar 3) (gVar 2)) (dBor (dCallP 2 f__law_walk (dCons (gVar 1) (dCons (gVar 3) dNil))))))
def t__law_joined_3 : DenS := (dSet 4 (den2 gIx (gVar 1) (gVar 3)))
def t__law_joined_4 : DenS := (dAsg (den2 gIx (gVar 1) (den2 gAdd (gVar 3) (gVar 2))) (gSubT 1 (gVar 3)))
def t__law_joined_5 : DenS := (dAsg (gVar 4) (gSubT 1 (den2 gAdd (gVar 3) (gVar 2))))
def t__law_joined_6 : DenS := (dIfS b__law_joined_1 (dSeq t__law_joined_3
  (dSeq t__law_joined_4
  t__law_joined_5)) dNx)
def l__law_joined_1 : DenS := t__law_joined_6
def t__law_joined_7 : DenS := (dFor [3, 4] (iRange1 (dCons (dFrz 2) dNil)) (gNameT 3) l__law_joined_1)
def t__law_joined_8 : DenS := (dRet (gVar 1))
def d__law_joined : DenS := (dSeq t__law_joined_1
  (dSeq t__law_joined_2
  (dSeq t__law_joined_7
  t__law_joined_8)))
def f__law_joined : List T → Option L := bodyP 1 5 d__law_joined
theorem ok__law_joined (F : Fun K "_law_joined" "_law_joined" s__law_joined f fd) (hmg : mg "_law_joined" = some (.ref f)) (hb : Binds K fd ["table"] []) (c__law_walk : Fn P w K mg base fa k "_law_walk" 2 (pureF f__law_walk)) (m_len : mg "len" = none) (m_list : mg "list" = none) (m_range : mg "range" = none) : Fn P w K mg base fa (k + 1) "_law_joined" 1 (pureF f__law_joined) :=
  fn_pure (as := [1, 2, 3, 4]) (d := d__law_joined) F sc__law_joined hmg hb fun cdv A outer s H E hr => (SSs.cons (SS.st (i := 1) sc__law_joined.nd (by rfl) (by rfl) (SE.list1 (by rfl) m_list (SE.v 0 (by rfl) (by rfl) (by rfl) (by rfl)) (by rfl)) (by rfl) (by rfl))
      (SSs.cons (SS.st (i := 2) sc__law_joined.nd (by rfl) (by rfl) (SE.div (SE.len (by rfl) m_len (SE.v 1 (by rfl) (by rfl) (by rfl) (by rfl)) (by rfl)) SE.int) (by rfl) (by rfl))
      (SSs.cons (SS.for PassesOwn.never (by rfl) (SI.range1 (by rfl) m_range (SA.cons (SE.frz (SE.v 2 (by rfl) (by rfl) (by rfl) (by rfl))) SA.nil (by rfl)) (by rfl)) (SG.n (i := 3) sc__law_joined.nd (by rfl) (by rfl) (by rfl)) (SSs.one (SS.ite (ST.cmp (SE.add (SE.v 3 (by rfl) (by rfl) (by rfl) (by rfl)) (SE.v 2 (by rfl) (by rfl) (by rfl) (by rfl))) (SE.bor (SE.callP c__law_walk hr (by rfl) (SA.cons (SE.v 1 (by rfl) (by rfl) (by rfl) (by rfl)) (SA.cons (SE.v 3 (by rfl) (by rfl) (by rfl) (by rfl)) SA.nil (by rfl)) (by rfl)) (by rfl) (by rfl) (by rfl))) (cmp_notIn (room65 hr)) (by rfl)) (SSs.cons (SS.st (i := 4) sc__law_joined.nd (by rfl) (by rfl) (SE.ix (SE.v 1 (by rfl) (by rfl) (by rfl) (by rfl)) (SE.v 3 (by rfl) (by rfl) (by rfl) (by rfl)) (fun _ _ => (by rfl))) (by rfl) (by rfl))
      (SSs.cons (SS.asgM (SE.ix (SE.v 1 (by rfl) (by rfl) (by rfl) (by rfl)) (SE.add (SE.v 3 (by rfl) (by rfl) (by rfl) (by rfl)) (SE.v 2 (by rfl) (by rfl) (by rfl) (by rfl))) (fun _ _ => (by rfl))) (SM.sub (j := 1) (by rfl) (vis_of (by rfl)) (by rfl) (by rfl) (SE.v 3 (by rfl) (by rfl) (by rfl) (by rfl)) (fun _ => (by rfl))) (by rfl) (by rfl) (by rfl))
      (SSs.one (SS.asgM (SE.v 4 (by rfl) (by rfl) (by rfl) (by rfl)) (SM.sub (j := 1) (by rfl) (vis_of (by rfl)) (by rfl) (by rfl) (SE.add (SE.v 3 (by rfl) (by rfl) (by rfl) (by rfl)) (SE.v 2 (by rfl) (by rfl) (by rfl) (by rfl))) (fun _ => (by rfl))) (by rfl) (by rfl) (by rfl))))) SSs.nil)) (fun _ => (by rfl)))
      (SSs.one (SS.ret (SE.v 1 (by rfl) (by rfl) (by rfl) (by rfl)))))))
abbrev s__law_single : Stmt := topS 22
theorem sc__law_single : FnScope ["table", "half", "at"] ["table"] (defScope s__law_single) := ⟨rfl, rfl, rfl, by decide +kernel, rfl, by decide +kernel, by decide +kernel⟩
def E__law_single (table half at_ : L) : REnv := [table, half, at_]
def t__law_single_1 : DenS := (dSet 1 (den2 gDiv (den1 gLen (gVar 0)) (gC (.int 2))))
def c__law_single_1 : Den := (compD (iRange1 (dCons (dFrz 1) dNil)) [2] (gNameT 2) (dBl (den2 (gB gEq) (den2 gIx (gVar 0) (gVar 2)) (den2 gIx (gVar 0) (den2 gAdd (gVar 2) (gVar 1))))) (gVar 2))
def b__law_single_1 : DenT := (dBl (den2 (gB gGt) (den1 gLen c__law_single_1) (gC (.int 0))))
def t__law_single_2 : DenS := (dRet (gC (.bl false)))
def t__law_single_3 : DenS := (dIfS b__law_single_1 t__law_single_2 dNx)
def t__law_single_4 : DenS := (dRet (den2 (gB gEq) (den1 gLen (dCallP 2 f__law_walk (dCons (gVar 0) (dCons (gC (.int 0)) dNil)))) (den1 gLen (gVar 0))))
def d__law_single : DenS := (dSeq t__law_single_1
  (dSeq t__law_single_3
  t__law_single_4))
def f__law_single : List T → Option L := bodyP 1 3 d__law_single
theorem ok__law_single (F : Fun K "_law_single" "_law_single" s__law_single f fd) (hmg : mg "_law_single" = some (.ref f)) (hb : Binds K fd ["table"] []) (c__law_walk : Fn P w K mg base fa k "_law_walk" 2 (pureF f__law_walk)) (m_len : mg "len" = none) (m_range : mg "range" = none) : Fn P w K mg base fa (k + 1) "_law_single" 1 (pureF f__law_single) :=
  fn_pure (as := [1]) (d := d__law_single) F sc__law_single hmg hb fun cdv A outer s H E hr => (SSs.cons (SS.st (i := 1) sc__law_single.nd (by rfl) (by rfl) (SE.div (SE.len (by rfl) m_len (SE.v 0 (by rfl) (by rfl) (by rfl) (by rfl)) (by rfl)) SE.int) (by rfl) (by rfl))
      (SSs.cons (SS.ite (ST.cmp (SE.len (by rfl) m_len (SE.lc (by rfl) (by rfl) sc__law_single.nd (SI.range1 (by rfl) m_range (SA.cons (SE.frz (SE.v 1 (by rfl) (by rfl) (by rfl) (by rfl))) SA.nil (by rfl)) (by rfl)) (blkOk_by (own := [("at", 2)]) (N := ["table", "half", "at"]) (sc := defScope s__law_single) (by decide +kernel)) (by decide) (fun _ _ _ _ _ => (SG.n (i := 2) sc__law_single.nd (by rfl) (by rfl) (by rfl))) (fun _ _ _ _ _ => (STs.one (ST.cmp (SE.ix (SE.v 0 (by rfl) (by rfl) (by rfl) (by rfl)) (SE.v 2 (by rfl) (by rfl) (by rfl) (by rfl)) (fun _ _ => (by rfl))) (SE.ix (SE.v 0 (by rfl) (by rfl) (by rfl) (by rfl)) (SE.add (SE.v 2 (by rfl) (by rfl) (by rfl) (by rfl)) (SE.v 1 (by rfl) (by rfl) (by rfl) (by rfl))) (fun _ _ => (by rfl))) (cmp_eq (room64 hr)) (by rfl)))) (fun _ _ _ _ _ => (SE.v 2 (by rfl) (by rfl) (by rfl) (by rfl))) (fun _ => (by rfl))) (by rfl)) SE.int (cmp_gt) (by rfl)) (SSs.one (SS.ret SE.bl)) SSs.nil)
      (SSs.one (SS.ret (SE.cmp (SE.len (by rfl) m_len (SE.callP c__law_walk hr (by rfl) (SA.cons (SE.v 0 (by rfl) (by rfl) (by rfl) (by rfl)) (SA.cons SE.int SA.nil (by rfl)) (by rfl)) (by rfl) (by rfl) (by rfl)) (by rfl)) (SE.len (by rfl) m_len (SE.v 0 (by rfl) (by rfl) (by rfl) (by rfl)) (by rfl)) (cmp_eq (room64 hr)) (by rfl))))))
abbrev s__law_counted : Stmt := topS 23
theorem sc__law_counted : FnScope ["n", "size", "step", "own"] ["n"] (defScope s__law_counted) := ⟨rfl, rfl, rfl, by decide +kernel, rfl, by decide +kernel, by decide +kernel⟩
def E__law_counted (n size step own : L) : REnv := [n, size, step, own]
def t__law_counted_1 : DenS := (dSet 1 (gC (.int 1)))
def t__law_counted_2 : DenS := (dSet 1 (den2 gMul (gVar 1) (gC (.int 2))))
def l__law_counted_1 : DenS := t__law_counted_2
def t__law_counted_3 : DenS := (dFor [2, 1] (iRange1 (dCons (gVar 0) dNil)) (gNameT 2) l__law_counted_1)
def c__law_counted_1 : Den := (compD (iSeq (dCallP 2 f__law_tuples (dCons (gC (.int 2)) (dCons (dFrz 1) dNil)))) [3] (gNameT 3) (dTru (dCallP 1 f__law_single (dCons (gVar 3) dNil))) (gVar 3))
def t__law_counted_4 : DenS := (dRet (den1 gLen c__law_counted_1))
def d__law_counted : DenS := (dSeq t__law_counted_1
  (dSeq t__law_counted_3
  t__law_counted_4))
def f__law_counted : List T → Option L := bodyP 1 4 d__law_counted
theorem ok__law_counted (F : Fun K "_law_counted" "_law_counted" s__law_counted f fd) (hmg : mg "_law_counted" = some (.ref f)) (hb : Binds K fd ["n"] []) (c__law_single : Fn P w K mg base fa k "_law_single" 1 (pureF f__law_single)) (c__law_tuples : Fn P w K mg base fa k "_law_tuples" 2 (pureF f__law_tuples)) (m_len : mg "len" = none) (m_range : mg "range" = none) : Fn P w K mg base fa (k + 1) "_law_counted" 1 (pureF f__law_counted) :=
  fn_pure (as := [1, 2, 1]) (d := d__law_counted) F sc__law_counted hmg hb fun cdv A outer s H E hr => (SSs.cons (SS.st (i := 1) sc__law_counted.nd (by rfl) (by rfl) SE.int (by rfl) (by rfl))
      (SSs.cons (SS.for PassesOwn.never (by rfl) (SI.range1 (by rfl) m_range (SA.cons (SE.v 0 (by rfl) (by rfl) (by rfl) (by rfl)) SA.nil (by rfl)) (by rfl)) (SG.n (i := 2) sc__law_counted.nd (by rfl) (by rfl) (by rfl)) (SSs.one (SS.st (i := 1) sc__law_counted.nd (by rfl) (by rfl) (SE.mul (SE.v 1 (by rfl) (by rfl) (by rfl) (by rfl)) SE.int) (by rfl) (by rfl))) (fun _ => (by rfl)))
      (SSs.one (SS.ret (SE.len (by rfl) m_len (SE.lc (by rfl) (by rfl) sc__law_counted.nd (SI.seq (SE.callP c__law_tuples hr (by rfl) (SA.cons SE.int (SA.cons (SE.frz (SE.v 1 (by rfl) (by rfl) (by rfl) (by rfl))) SA.nil (by rfl)) (by rfl)) (by rfl) (by rfl) (by rfl))) (blkOk_by (own := [("own", 3)]) (N := ["n", "size", "step", "own"]) (sc := defScope s__law_counted) (by decide +kernel)) (by decide) (fun _ _ _ _ _ => (SG.n (i := 3) sc__law_counted.nd (by rfl) (by rfl) (by rfl))) (fun _ _ _ _ _ => (STs.one (SE.truth (SE.callP c__law_single hr (by rfl) (SA.cons (SE.v 3 (by rfl) (by rfl) (by rfl) (by rfl)) SA.nil (by rfl)) (by rfl) (by rfl) (by rfl)) (fun _ => (by rfl))))) (fun _ _ _ _ _ => (SE.v 3 (by rfl) (by rfl) (by rfl) (by rfl))) (fun _ => (by rfl))) (by rfl))))))
abbrev s__law_drawn : Stmt := topS 24
theorem sc__law_drawn : FnScope ["feed", "n", "size", "first", "j", "rest", "x", "way", "at"] ["feed", "n"] (defScope s__law_drawn) := ⟨rfl, rfl, rfl, by decide +kernel, rfl, by decide +kernel, by decide +kernel⟩
def E__law_drawn (feed n size first j rest x way at_ : L) : REnv := [feed, n, size, first, j, rest, x, way, at_]
def t__law_drawn_1 : DenS := (dSet 2 (den1 gLen (dCallP 2 f__law_tuples (dCons (gC (.int 2)) (dCons (gVar 1) dNil)))))
def c__law_drawn_1 : Den := (compD (iRange1 (dCons (den2 gDiv (gVar 2) (gC (.int 2))) dNil)) [4] (gNameT 4) dYes (dCallF 2 0 g__law_draw (dCons (gC (.int 2)) dNil)))
def t__law_drawn_2 : DenS := (dSet 3 c__law_drawn_1)
def b__law_drawn_1 : DenT := (dBl (den2 (gB gEq) (dCallF 2 0 g__law_draw (dCons (gC (.int 4)) dNil)) (gC (.int 1))))
def t__law_drawn_3 : DenS := (dSet 3 (den2 gMul (dLst (dCons (gC (.int 0)) dNil)) (den2 gDiv (gVar 2) (gC (.int 2)))))
def t__law_drawn_4 : DenS := (dIfS b__law_drawn_1 t__law_drawn_3 dNx)
def c__law_drawn_2 : Den := (compD (iSeq (gVar 3)) [6] (gNameT 6) dYes (den2 gSub (gC (.int 1)) (gVar 6)))
def t__law_drawn_5 : DenS := (dSet 5 c__law_drawn_2)
def t__law_drawn_6 : DenS := (dSet 7 (dCallF 2 0 g__law_draw (dCons (gC (.int 6)) dNil)))
def b__law_drawn_2 : DenT := (dBl (den2 (gB gEq) (gVar 7) (gC (.int 1))))
def c__law_drawn_3 : Den := (compD (iRange1 (dCons (den2 gDiv (gVar 2) (gC (.int 2))) dNil)) [4] (gNameT 4) dYes (dCallF 2 0 g__law_draw (dCons (gC (.int 2)) dNil)))
def t__law_drawn_7 : DenS := (dSet 5 c__law_drawn_3)
def t__law_drawn_8 : DenS := (dIfS b__law_drawn_2 t__law_drawn_7 dNx)
def b__law_drawn_3 : DenT := (dBl (den2 (gB gEq) (gVar 7) (gC (.int 2))))
def t__law_drawn_9 : DenS := (dSet 8 (dCallF 2 0 g__law_draw (dCons (den2 gDiv (gVar 2) (gC (.int 2))) dNil)))
def t__law_drawn_10 : DenS := (dAsg (den2 gSub (gC (.int 1)) (den2 gIx (gVar 5) (gVar 8))) (gSubT 5 (gVar 8)))
def t__law_drawn_11 : DenS := (dIfS b__law_drawn_3 (dSeq t__law_drawn_9
  t__law_drawn_10) dNx)
def t__law_drawn_12 : DenS := (dRet (den2 gAdd (gVar 3) (gVar 5)))
def d__law_drawn : DenS := (dSeq t__law_drawn_1
  (dSeq t__law_drawn_2
  (dSeq t__law_drawn_4
  (dSeq t__law_drawn_5
  (dSeq t__law_drawn_6
  (dSeq t__law_drawn_8
  (dSeq t__law_drawn_11
  t__law_drawn_12)))))))
def g__law_drawn : List T → List T → Option (L × List T) := bodyF 2 9 [2, 3, 3, 5, 7, 5, 8] d__law_drawn
theorem ok__law_drawn (F : Fun K "_law_drawn" "_law_drawn" s__law_drawn f fd) (hmg : mg "_law_drawn" = some (.ref f)) (hb : Binds K fd ["feed", "n"] []) (c__law_draw : Fn P w K mg base fa k "_law_draw" 2 (feedF g__law_draw)) (c__law_tuples : Fn P w K mg base fa k "_law_tuples" 2 (pureF f__law_tuples)) (m_len : mg "len" = none) (m_range : mg "range" = none) : Fn P w K mg base fa (k + 1) "_law_drawn" 2 (feedF g__law_drawn) :=
  fn_feed (as := [2, 3, 3, 5, 7, 5, 8]) (d := d__law_drawn) F sc__law_drawn hmg hb fun cdv A outer s H E hr => (SSs.cons (SS.st (i := 2) sc__law_drawn.nd (by rfl) (by rfl) (SE.len (by rfl) m_len (SE.callP c__law_tuples hr (by rfl) (SA.cons SE.int (SA.cons (SE.v 1 (by rfl) (by rfl) (by rfl) (by rfl)) SA.nil (by rfl)) (by rfl)) (by rfl) (by rfl) (by rfl)) (by rfl)) (by rfl) (by rfl))
      (SSs.cons (SS.lc (i := 3) (by rfl) (by rfl) sc__law_drawn.nd (by rfl) (by rfl) (sw_true (by rfl) (by rfl) (by rfl) (by decide +kernel)) (SI.range1 (by rfl) m_range (SA.cons (SE.div (SE.v 2 (by rfl) (by rfl) (by rfl) (by rfl)) SE.int) SA.nil (by rfl)) (by rfl)) (blkOk_by (own := [("j", 4)]) (N := ["feed", "n", "size", "first", "j", "rest", "x", "way", "at"]) (sc := defScope s__law_drawn) (by decide +kernel)) (by decide) (fun _ _ _ _ _ => (SG.n (i := 4) sc__law_drawn.nd (by rfl) (by rfl) (by rfl))) (fun _ _ _ _ _ => STs.nil) (fun _ _ _ _ _ => (SE.callF c__law_draw hr (by rfl) (i := 0) (by rfl) (vis_of (by rfl)) (by rfl) (by rfl) (SA.cons SE.int SA.nil (by rfl)) (by rfl) (by rfl) (by rfl))) (fun _ => (by rfl)))
      (SSs.cons (SS.ite (ST.cmp (SE.callF c__law_draw hr (by rfl) (i := 0) (by rfl) (vis_of (by rfl)) (by rfl) (by rfl) (SA.cons SE.int SA.nil (by rfl)) (by rfl) (by rfl) (by rfl)) SE.int (cmp_eq (room64 hr)) (by rfl)) (SSs.one (SS.st (i := 3) sc__law_drawn.nd (by rfl) (by rfl) (SE.mul (SE.lst (SA.cons SE.int SA.nil (by rfl))) (SE.div (SE.v 2 (by rfl) (by rfl) (by rfl) (by rfl)) SE.int)) (by rfl) (by rfl))) SSs.nil)
      (SSs.cons (SS.lc (i := 5) (by rfl) (by rfl) sc__law_drawn.nd (by rfl) (by rfl) (sw_true (by rfl) (by rfl) (by rfl) (by decide +kernel)) (SI.seq (SE.v 3 (by rfl) (by rfl) (by rfl) (by rfl))) (blkOk_by (own := [("x", 6)]) (N := ["feed", "n", "size", "first", "j", "rest", "x", "way", "at"]) (sc := defScope s__law_drawn) (by decide +kernel)) (by decide) (fun _ _ _ _ _ => (SG.n (i := 6) sc__law_drawn.nd (by rfl) (by rfl) (by rfl))) (fun _ _ _ _ _ => STs.nil) (fun _ _ _ _ _ => (SE.sub SE.int (SE.v 6 (by rfl) (by rfl) (by rfl) (by rfl)))) (fun _ => (by rfl)))
      (SSs.cons (SS.st (i := 7) sc__law_drawn.nd (by rfl) (by rfl) (SE.callF c__law_draw hr (by rfl) (i := 0) (by rfl) (vis_of (by rfl)) (by rfl) (by rfl) (SA.cons SE.int SA.nil (by rfl)) (by rfl) (by rfl) (by rfl)) (by rfl) (by rfl))
      (SSs.cons (SS.ite (ST.cmp (SE.v 7 (by rfl) (by rfl) (by rfl) (by rfl)) SE.int (cmp_eq (room64 hr)) (by rfl)) (SSs.one (SS.lc (i := 5) (by rfl) (by rfl) sc__law_drawn.nd (by rfl) (by rfl) (sw_true (by rfl) (by rfl) (by rfl) (by decide +kernel)) (SI.range1 (by rfl) m_range (SA.cons (SE.div (SE.v 2 (by rfl) (by rfl) (by rfl) (by rfl)) SE.int) SA.nil (by rfl)) (by rfl)) (blkOk_by (own := [("j", 4)]) (N := ["feed", "n", "size", "first", "j", "rest", "x", "way", "at"]) (sc := defScope s__law_drawn) (by decide +kernel)) (by decide) (fun _ _ _ _ _ => (SG.n (i := 4) sc__law_drawn.nd (by rfl) (by rfl) (by rfl))) (fun _ _ _ _ _ => STs.nil) (fun _ _ _ _ _ => (SE.callF c__law_draw hr (by rfl) (i := 0) (by rfl) (vis_of (by rfl)) (by rfl) (by rfl) (SA.cons SE.int SA.nil (by rfl)) (by rfl) (by rfl) (by rfl))) (fun _ => (by rfl)))) SSs.nil)
      (SSs.cons (SS.ite (ST.cmp (SE.v 7 (by rfl) (by rfl) (by rfl) (by rfl)) SE.int (cmp_eq (room64 hr)) (by rfl)) (SSs.cons (SS.st (i := 8) sc__law_drawn.nd (by rfl) (by rfl) (SE.callF c__law_draw hr (by rfl) (i := 0) (by rfl) (vis_of (by rfl)) (by rfl) (by rfl) (SA.cons (SE.div (SE.v 2 (by rfl) (by rfl) (by rfl) (by rfl)) SE.int) SA.nil (by rfl)) (by rfl) (by rfl) (by rfl)) (by rfl) (by rfl))
      (SSs.one (SS.asgM (SE.sub SE.int (SE.ix (SE.v 5 (by rfl) (by rfl) (by rfl) (by rfl)) (SE.v 8 (by rfl) (by rfl) (by rfl) (by rfl)) (fun _ _ => (by rfl)))) (SM.sub (j := 5) (by rfl) (vis_of (by rfl)) (by rfl) (by rfl) (SE.v 8 (by rfl) (by rfl) (by rfl) (by rfl)) (fun _ => (by rfl))) (by rfl) (by rfl) (by rfl)))) SSs.nil)
      (SSs.one (SS.ret (SE.add (SE.v 3 (by rfl) (by rfl) (by rfl) (by rfl)) (SE.v 5 (by rfl) (by rfl) (by rfl) (by rfl))))))))))))
abbrev s__law_one_round : Stmt := topS 25
theorem sc__law_one_round : FnScope ["joined", "states", "n", "walk", "at", "row", "stretches", "t"] ["joined", "states", "n"] (defScope s__law_one_round) := ⟨rfl, rfl, rfl, by decide +kernel, rfl, by decide +kernel, by decide +kernel⟩
def E__law_one_round (joined states n walk at_ row stretches t : L) : REnv := [joined, states, n, walk, at_, row, stretches, t]
def t__law_one_round_1 : DenS := (dSet 3 (dCallP 2 f__law_walk (dCons (gVar 0) (dCons (gC (.int 0)) dNil))))
def c__law_one_round_1 : Den := (compD (iSeq (gVar 3)) [4] (gNameT 4) dYes (den2 gIx (gVar 1) (gVar 4)))
def b__law_one_round_1 : DenT := (dOr (dNot (dTru (dCallP 2 (f__law_alike 5) (dCons (dCallP 1 f_rounds_of_table (dCons (gVar 0) dNil)) (dCons (dLst (dCons c__law_one_round_1 dNil)) dNil))))) (dBl (den2 (gB gIsNot) (dCallP 1 f_is_round_table (dCons (gVar 0) dNil)) (gC (.bl true)))))
def t__law_one_round_2 : DenS := (dRet (gC (.bl false)))
def t__law_one_round_3 : DenS := (dIfS b__law_one_round_1 t__law_one_round_2 dNx)
def t__law_one_round_4 : DenS := (dSet 5 (dCallP 1 f_row_of_table (dCons (gVar 0) dNil)))
def c__law_one_round_2 : Den := (compD (iSeq (gVar 3)) [4] (gNameT 4) dYes (den2 gIx (den2 gIx (gVar 1) (gVar 4)) (gC (.int 0))))
def b__law_one_round_2 : DenT := (dOr (dNot (dTru (dCallP 2 (f__law_alike 5) (dCons (dFrz 5) (dCons c__law_one_round_2 dNil))))) (dBl (den2 (gB gNe) (den1 gLen (gVar 5)) (den1 gLen (gVar 1)))))
def t__law_one_round_5 : DenS := (dRet (gC (.bl false)))
def t__law_one_round_6 : DenS := (dIfS b__law_one_round_2 t__law_one_round_5 dNx)
def c__law_one_round_3 : Den := (compD (iRange1 (dCons (den1 gLen (gVar 5)) dNil)) [7] (gNameT 7) dYes (den1 gTuple (dSl (den2 gAdd (gVar 5) (gVar 5)) (dSome (gVar 7)) (dSome (den2 gAdd (gVar 7) (gVar 2))))))
def t__law_one_round_7 : DenS := (dSet 6 (den1 gSortTT c__law_one_round_3))
def t__law_one_round_8 : DenS := (dRet (dAndV (den2 (gB gEq) (gVar 6) (gVar 1)) (dCallP 2 (f__law_alike 5) (dCons (dCallP 1 f_joined_table (dCons (gVar 0) dNil)) (dCons (gVar 0) dNil)))))
def d__law_one_round : DenS := (dSeq t__law_one_round_1
  (dSeq t__law_one_round_3
  (dSeq t__law_one_round_4
  (dSeq t__law_one_round_6
  (dSeq t__law_one_round_7
  t__law_one_round_8)))))
def f__law_one_round : List T → Option L := bodyP 3 8 d__law_one_round
theorem ok__law_one_round (F : Fun K "_law_one_round" "_law_one_round" s__law_one_round f fd) (hmg : mg "_law_one_round" = some (.ref f)) (hb : Binds K fd ["joined", "states", "n"] []) (c__law_alike : Fn P w K mg base fa k "_law_alike" 2 (pureF (f__law_alike 5))) (c__law_walk : Fn P w K mg base fa k "_law_walk" 2 (pureF f__law_walk)) (c_is_round_table : Fn P w K mg base fa k "is_round_table" 1 (pureF f_is_round_table)) (c_joined_table : Fn P w K mg base fa k "joined_table" 1 (pureF f_joined_table)) (c_rounds_of_table : Fn P w K mg base fa k "rounds_of_table" 1 (pureF f_rounds_of_table)) (c_row_of_table : Fn P w K mg base fa k "row_of_table" 1 (pureF f_row_of_table)) (m_len : mg "len" = none) (m_range : mg "range" = none) (m_sorted : mg "sorted" = none) (m_tuple : mg "tuple" = none) : Fn P w K mg base fa (k + 1) "_law_one_round" 3 (pureF f__law_one_round) :=
  fn_pure (as := [3, 5, 6]) (d := d__law_one_round) F sc__law_one_round hmg hb fun cdv A outer s H E hr => (SSs.cons (SS.st (i := 3) sc__law_one_round.nd (by rfl) (by rfl) (SE.callP c__law_walk hr (by rfl) (SA.cons (SE.v 0 (by rfl) (by rfl) (by rfl) (by rfl)) (SA.cons SE.int SA.nil (by rfl)) (by rfl)) (by rfl) (by rfl) (by rfl)) (by rfl) (by rfl))
      (SSs.cons (SS.ite (SW.test (SW.or (ST.not (SE.truth (SE.callP c__law_alike hr (by rfl) (SA.cons (SE.callP c_rounds_of_table hr (by rfl) (SA.cons (SE.v 0 (by rfl) (by rfl) (by rfl) (by rfl)) SA.nil (by rfl)) (by rfl) (by rfl) (by rfl)) (SA.cons (SE.lst (SA.cons (SE.lc (by rfl) (by rfl) sc__law_one_round.nd (SI.seq (SE.v 3 (by rfl) (by rfl) (by rfl) (by rfl))) (blkOk_by (own := [("at", 4)]) (N := ["joined", "states", "n", "walk", "at", "row", "stretches", "t"]) (sc := defScope s__law_one_round) (by decide +kernel)) (by decide) (fun _ _ _ _ _ => (SG.n (i := 4) sc__law_one_round.nd (by rfl) (by rfl) (by rfl))) (fun _ _ _ _ _ => STs.nil) (fun _ _ _ _ _ => (SE.ix (SE.v 1 (by rfl) (by rfl) (by rfl) (by rfl)) (SE.v 4 (by rfl) (by rfl) (by rfl) (by rfl)) (fun _ _ => (by rfl)))) (fun _ => (by rfl))) SA.nil (by rfl))) SA.nil (by rfl)) (by rfl)) (by rfl) (by rfl) (by rfl)) (fun _ => (by rfl)))) (SW.or1 (ST.cmp (SE.callP c_is_round_table hr (by rfl) (SA.cons (SE.v 0 (by rfl) (by rfl) (by rfl) (by rfl)) SA.nil (by rfl)) (by rfl) (by rfl) (by rfl)) SE.bl (cmp_isNot) (by rfl))))) (SSs.one (SS.ret SE.bl)) SSs.nil)
      (SSs.cons (SS.st (i := 5) sc__law_one_round.nd (by rfl) (by rfl) (SE.callP c_row_of_table hr (by rfl) (SA.cons (SE.v 0 (by rfl) (by rfl) (by rfl) (by rfl)) SA.nil (by rfl)) (by rfl) (by rfl) (by rfl)) (by rfl) (by rfl))
      (SSs.cons (SS.ite (SW.test (SW.or (ST.not (SE.truth (SE.callP c__law_alike hr (by rfl) (SA.cons (SE.frz (SE.v 5 (by rfl) (by rfl) (by rfl) (by rfl))) (SA.cons (SE.lc (by rfl) (by rfl) sc__law_one_round.nd (SI.seq (SE.v 3 (by rfl) (by rfl) (by rfl) (by rfl))) (blkOk_by (own := [("at", 4)]) (N := ["joined", "states", "n", "walk", "at", "row", "stretches", "t"]) (sc := defScope s__law_one_round) (by decide +kernel)) (by decide) (fun _ _ _ _ _ => (SG.n (i := 4) sc__law_one_round.nd (by rfl) (by rfl) (by rfl))) (fun _ _ _ _ _ => STs.nil) (fun _ _ _ _ _ => (SE.ix (SE.ix (SE.v 1 (by rfl) (by rfl) (by rfl) (by rfl)) (SE.v 4 (by rfl) (by rfl) (by rfl) (by rfl)) (fun _ _ => (by rfl))) SE.int (fun _ _ => (by rfl)))) (fun _ => (by rfl))) SA.nil (by rfl)) (by rfl)) (by rfl) (by rfl) (by rfl)) (fun _ => (by rfl)))) (SW.or1 (ST.cmp (SE.len (by rfl) m_len (SE.v 5 (by rfl) (by rfl) (by rfl) (by rfl)) (by rfl)) (SE.len (by rfl) m_len (SE.v 1 (by rfl) (by rfl) (by rfl) (by rfl)) (by rfl)) (cmp_ne (room64 hr)) (by rfl))))) (SSs.one (SS.ret SE.bl)) SSs.nil)
      (SSs.cons (SS.st (i := 6) sc__law_one_round.nd (by rfl) (by rfl) (SE.sortTT (by rfl) m_sorted (SE.lc (by rfl) (by rfl) sc__law_one_round.nd (SI.range1 (by rfl) m_range (SA.cons (SE.len (by rfl) m_len (SE.v 5 (by rfl) (by rfl) (by rfl) (by rfl)) (by rfl)) SA.nil (by rfl)) (by rfl)) (blkOk_by (own := [("t", 7)]) (N := ["joined", "states", "n", "walk", "at", "row", "stretches", "t"]) (sc := defScope s__law_one_round) (by decide +kernel)) (by decide) (fun _ _ _ _ _ => (SG.n (i := 7) sc__law_one_round.nd (by rfl) (by rfl) (by rfl))) (fun _ _ _ _ _ => STs.nil) (fun _ _ _ _ _ => (SE.tuple1 (by rfl) m_tuple (SE.sl (SE.add (SE.v 5 (by rfl) (by rfl) (by rfl) (by rfl)) (SE.v 5 (by rfl) (by rfl) (by rfl) (by rfl))) (SO.some (SE.v 7 (by rfl) (by rfl) (by rfl) (by rfl))) (SO.some (SE.add (SE.v 7 (by rfl) (by rfl) (by rfl) (by rfl)) (SE.v 2 (by rfl) (by rfl) (by rfl) (by rfl))))) (by rfl))) (fun _ => (by rfl))) (by rfl)) (by rfl) (by rfl))
      (SSs.one (SS.ret (SE.andV (SE.cmp (SE.v 6 (by rfl) (by rfl) (by rfl) (by rfl)) (SE.v 1 (by rfl) (by rfl) (by rfl) (by rfl)) (cmp_eq (room64 hr)) (by rfl)) (SE.one (SE.callP c__law_alike hr (by rfl) (SA.cons (SE.callP c_joined_table hr (by rfl) (SA.cons (SE.v 0 (by rfl) (by rfl) (by rfl) (by rfl)) SA.nil (by rfl)) (by rfl) (by rfl) (by rfl)) (SA.cons (SE.v 0 (by rfl) (by rfl) (by rfl) (by rfl)) SA.nil (by rfl)) (by rfl)) (by rfl) (by rfl) (by rfl)))))))))))
abbrev s_law : Stmt := topS 26
theorem sc_law : FnScope ["script", "feed", "n", "states", "table", "kept", "at", "own", "half", "good", "size", "due", "places", "joined"] ["script"] (defScope s_law) := ⟨rfl, rfl, rfl, by decide +kernel, rfl, by decide +kernel, by decide +kernel⟩
def E_law (script feed n states table kept at_ own half good size due places joined : L) : REnv := [script, feed, n, states, table, kept, at_, own, half, good, size, due, places, joined]
def t_law_1 : DenS := (dSet 1 (dCallP 1 f__law_feed (dCons (gVar 0) dNil)))
def t_law_2 : DenS := (dSet 2 (den2 gAdd (gC (.int 1)) (dCallF 2 1 g__law_draw (dCons (gC (.int 4)) dNil))))
def b_law_1 : DenT := (dBl (den2 (gB gEq) (dCallF 2 1 g__law_draw (dCons (gC (.int 8)) dNil)) (gC (.int 1))))
def t_law_3 : DenS := (dSet 2 (den2 gAdd (gC (.int 5)) (dCallF 2 1 g__law_draw (dCons (gC (.int 2)) dNil))))
def t_law_4 : DenS := (dIfS b_law_1 t_law_3 dNx)
def t_law_5 : DenS := (dSet 3 (dCallP 2 f__law_tuples (dCons (gC (.int 2)) (dCons (dFrz 2) dNil))))
def t_law_6 : DenS := (dSet 4 (dCallF 2 1 g__law_drawn (dCons (dFrz 2) dNil)))
def t_law_7 : DenS := (dSet 5 (den1 gList (gVar 4)))
def t_law_8 : DenS := (dSet 6 (dCallF 2 1 g__law_draw (dCons (den1 gLen (gVar 3)) dNil)))
def c_law_1 : Den := (compD (iSeq (dCallP 2 f__law_walk (dCons (dFrz 4) (dCons (gVar 6) dNil)))) [7] (gNameT 7) dYes (den2 gIx (gVar 3) (gVar 7)))
def b_law_2 : DenT := (dNot (dTru (dCallP 2 (f__law_alike 5) (dCons (dCallP 2 f_table_states (dCons (dFrz 4) (dCons (den2 gIx (gVar 3) (gVar 6)) dNil))) (dCons c_law_1 dNil)))))
def t_law_9 : DenS := (dRet (gC (.bl false)))
def t_law_10 : DenS := (dIfS b_law_2 t_law_9 dNx)
def t_law_11 : DenS := (dSet 8 (den2 gDiv (den1 gLen (gVar 3)) (gC (.int 2))))
def c_law_2 : Den := (compD (iRange1 (dCons (dFrz 8) dNil)) [7] (gNameT 7) (dBl (den2 (gB gEq) (den2 gIx (gVar 4) (gVar 7)) (den2 gIx (gVar 4) (den2 gAdd (gVar 7) (gVar 8))))) (gVar 7))
def t_law_12 : DenS := (dSet 9 (den2 (gB gEq) (den1 gLen c_law_2) (gC (.int 0))))
def b_law_3 : DenT := (dOr (dNot (dTru (dCallP 2 (f__law_alike 5) (dCons (dCallP 1 f_is_round_table (dCons (dFrz 4) dNil)) (dCons (gVar 9) dNil))))) (dBl (den2 (gB gNe) (gVar 4) (gVar 5))))
def t_law_13 : DenS := (dRet (gC (.bl false)))
def t_law_14 : DenS := (dIfS b_law_3 t_law_13 dNx)
def t_law_15 : DenS := (dSet 10 (den2 gAdd (gC (.int 1)) (dCallF 2 1 g__law_draw (dCons (gC (.int 3)) dNil))))
def b_law_4 : DenT := (dNot (dTru (dCallP 2 (f__law_alike 5) (dCons (dCallP 1 f_count_greatest_rounds (dCons (dFrz 10) dNil)) (dCons (dCallP 1 f__law_counted (dCons (dFrz 10) dNil)) dNil)))))
def t_law_16 : DenS := (dRet (gC (.bl false)))
def t_law_17 : DenS := (dIfS b_law_4 t_law_16 dNx)
def t_law_18 : DenS := (dSet 10 (den2 gAdd (gC (.int 1)) (dCallF 2 1 g__law_draw (dCons (gC (.int 6)) dNil))))
def b_law_5 : DenT := (dNot (dTru (dCallP 2 (f__law_alike 5) (dCons (dCallP 1 f_count_greatest_rounds (dCons (dFrz 10) dNil)) (dCons (den2 gIx (dLst (dCons (gC (.int 1)) (dCons (gC (.int 1)) (dCons (gC (.int 2)) (dCons (gC (.int 16)) (dCons (gC (.int 2048)) (dCons (gC (.int 67108864)) dNil))))))) (den2 gSub (gVar 10) (gC (.int 1)))) dNil)))))
def t_law_19 : DenS := (dRet (gC (.bl false)))
def t_law_20 : DenS := (dIfS b_law_5 t_law_19 dNx)
def b_law_6 : DenT := (dNot (dTru (gVar 9)))
def t_law_21 : DenS := (dRet (gC (.bl true)))
def t_law_22 : DenS := (dIfS b_law_6 t_law_21 dNx)
def c_law_3 : Den := (compD (iSeq (gVar 12)) [7] (gNameT 7) dYes (den2 gIx (gVar 3) (gVar 7)))
def c_law_4 : Den := (compD (iSeq (dCallP 1 f__law_rounds (dCons (dFrz 4) dNil))) [12] (gNameT 12) dYes c_law_3)
def t_law_23 : DenS := (dSet 11 c_law_4)
def b_law_7 : DenT := (dNot (dTru (dCallP 2 (f__law_alike 5) (dCons (dCallP 1 f_rounds_of_table (dCons (dFrz 4) dNil)) (dCons (dFrz 11) dNil)))))
def t_law_24 : DenS := (dRet (gC (.bl false)))
def t_law_25 : DenS := (dIfS b_law_7 t_law_24 dNx)
def c_law_5 : Den := (compD (iSeq (dCallP 2 f__law_walk (dCons (dFrz 4) (dCons (gC (.int 0)) dNil)))) [7] (gNameT 7) dYes (den2 gIx (den2 gIx (gVar 3) (gVar 7)) (gC (.int 0))))
def b_law_8 : DenT := (dNot (dTru (dCallP 2 (f__law_alike 5) (dCons (dCallP 1 f_row_of_table (dCons (dFrz 4) dNil)) (dCons c_law_5 dNil)))))
def t_law_26 : DenS := (dRet (gC (.bl false)))
def t_law_27 : DenS := (dIfS b_law_8 t_law_26 dNx)
def t_law_28 : DenS := (dSet 13 (dCallP 1 f__law_joined (dCons (dFrz 4) dNil)))
def b_law_9 : DenT := (dOr (dNot (dTru (dCallP 2 (f__law_alike 5) (dCons (dCallP 1 f_joined_table (dCons (dFrz 4) dNil)) (dCons (dFrz 13) dNil))))) (dBl (den2 (gB gNe) (gVar 4) (gVar 5))))
def t_law_29 : DenS := (dRet (gC (.bl false)))
def t_law_30 : DenS := (dIfS b_law_9 t_law_29 dNx)
def t_law_31 : DenS := (dRet (dCallP 3 f__law_one_round (dCons (dFrz 13) (dCons (dFrz 3) (dCons (dFrz 2) dNil)))))
def d_law : DenS := (dSeq t_law_1
  (dSeq t_law_2
  (dSeq t_law_4
  (dSeq t_law_5
  (dSeq t_law_6
  (dSeq t_law_7
  (dSeq t_law_8
  (dSeq t_law_10
  (dSeq t_law_11
  (dSeq t_law_12
  (dSeq t_law_14
  (dSeq t_law_15
  (dSeq t_law_17
  (dSeq t_law_18
  (dSeq t_law_20
  (dSeq t_law_22
  (dSeq t_law_23
  (dSeq t_law_25
  (dSeq t_law_27
  (dSeq t_law_28
  (dSeq t_law_30
  t_law_31)))))))))))))))))))))
def f_law : List T → Option L := bodyP 1 14 d_law
theorem ok_law (F : Fun K "law" "law" s_law f fd) (c__law_alike : Fn P w K mg base fa k "_law_alike" 2 (pureF (f__law_alike 5))) (c__law_counted : Fn P w K mg base fa k "_law_counted" 1 (pureF f__law_counted)) (c__law_draw : Fn P w K mg base fa k "_law_draw" 2 (feedF g__law_draw)) (c__law_drawn : Fn P w K mg base fa k "_law_drawn" 2 (feedF g__law_drawn)) (c__law_feed : Fn P w K mg base fa k "_law_feed" 1 (pureF f__law_feed)) (c__law_joined : Fn P w K mg base fa k "_law_joined" 1 (pureF f__law_joined)) (c__law_one_round : Fn P w K mg base fa k "_law_one_round" 3 (pureF f__law_one_round)) (c__law_rounds : Fn P w K mg base fa k "_law_rounds" 1 (pureF f__law_rounds)) (c__law_tuples : Fn P w K mg base fa k "_law_tuples" 2 (pureF f__law_tuples)) (c__law_walk : Fn P w K mg base fa k "_law_walk" 2 (pureF f__law_walk)) (c_count_greatest_rounds : Fn P w K mg base fa k "count_greatest_rounds" 1 (pureF f_count_greatest_rounds)) (c_is_round_table : Fn P w K mg base fa k "is_round_table" 1 (pureF f_is_round_table)) (c_joined_table : Fn P w K mg base fa k "joined_table" 1 (pureF f_joined_table)) (c_rounds_of_table : Fn P w K mg base fa k "rounds_of_table" 1 (pureF f_rounds_of_table)) (c_row_of_table : Fn P w K mg base fa k "row_of_table" 1 (pureF f_row_of_table)) (c_table_states : Fn P w K mg base fa k "table_states" 2 (pureF f_table_states)) (m_len : mg "len" = none) (m_list : mg "list" = none) (m_range : mg "range" = none) : FnL P w K mg base fa (k + 1) f fd ["script"] (pureF f_law) :=
  fn_pureL (N := ["script", "feed", "n", "states", "table", "kept", "at", "own", "half", "good", "size", "due", "places", "joined"]) (as := [1, 2, 2, 3, 4, 5, 6, 8, 9, 10, 10, 11, 13]) (d := d_law) F sc_law fun cdv A outer s H E hr => (SSs.cons (SS.st (i := 1) sc_law.nd (by rfl) (by rfl) (SE.callP c__law_feed hr (by rfl) (SA.cons (SE.v 0 (by rfl) (by rfl) (by rfl) (by rfl)) SA.nil (by rfl)) (by rfl) (by rfl) (by rfl)) (by rfl) (by rfl))
      (SSs.cons (SS.st (i := 2) sc_law.nd (by rfl) (by rfl) (SE.add SE.int (SE.callF c__law_draw hr (by rfl) (i := 1) (by rfl) (vis_of (by rfl)) (by rfl) (by rfl) (SA.cons SE.int SA.nil (by rfl)) (by rfl) (by rfl) (by rfl))) (by rfl) (by rfl))
      (SSs.cons (SS.ite (ST.cmp (SE.callF c__law_draw hr (by rfl) (i := 1) (by rfl) (vis_of (by rfl)) (by rfl) (by rfl) (SA.cons SE.int SA.nil (by rfl)) (by rfl) (by rfl) (by rfl)) SE.int (cmp_eq (room64 hr)) (by rfl)) (SSs.one (SS.st (i := 2) sc_law.nd (by rfl) (by rfl) (SE.add SE.int (SE.callF c__law_draw hr (by rfl) (i := 1) (by rfl) (vis_of (by rfl)) (by rfl) (by rfl) (SA.cons SE.int SA.nil (by rfl)) (by rfl) (by rfl) (by rfl))) (by rfl) (by rfl))) SSs.nil)
      (SSs.cons (SS.st (i := 3) sc_law.nd (by rfl) (by rfl) (SE.callP c__law_tuples hr (by rfl) (SA.cons SE.int (SA.cons (SE.frz (SE.v 2 (by rfl) (by rfl) (by rfl) (by rfl))) SA.nil (by rfl)) (by rfl)) (by rfl) (by rfl) (by rfl)) (by rfl) (by rfl))
      (SSs.cons (SS.st (i := 4) sc_law.nd (by rfl) (by rfl) (SE.callF c__law_drawn hr (by rfl) (i := 1) (by rfl) (vis_of (by rfl)) (by rfl) (by rfl) (SA.cons (SE.frz (SE.v 2 (by rfl) (by rfl) (by rfl) (by rfl))) SA.nil (by rfl)) (by rfl) (by rfl) (by rfl)) (by rfl) (by rfl))
      (SSs.cons (SS.st (i := 5) sc_law.nd (by rfl) (by rfl) (SE.list1 (by rfl) m_list (SE.v 4 (by rfl) (by rfl) (by rfl) (by rfl)) (by rfl)) (by rfl) (by rfl))
      (SSs.cons (SS.st (i := 6) sc_law.nd (by rfl) (by rfl) (SE.callF c__law_draw hr (by rfl) (i := 1) (by rfl) (vis_of (by rfl)) (by rfl) (by rfl) (SA.cons (SE.len (by rfl) m_len (SE.v 3 (by rfl) (by rfl) (by rfl) (by rfl)) (by rfl)) SA.nil (by rfl)) (by rfl) (by rfl) (by rfl)) (by rfl) (by rfl))
      (SSs.cons (SS.ite (ST.not (SE.truth (SE.callP c__law_alike hr (by rfl) (SA.cons (SE.callP c_table_states hr (by rfl) (SA.cons (SE.frz (SE.v 4 (by rfl) (by rfl) (by rfl) (by rfl))) (SA.cons (SE.ix (SE.v 3 (by rfl) (by rfl) (by rfl) (by rfl)) (SE.v 6 (by rfl) (by rfl) (by rfl) (by rfl)) (fun _ _ => (by rfl))) SA.nil (by rfl)) (by rfl)) (by rfl) (by rfl) (by rfl)) (SA.cons (SE.lc (by rfl) (by rfl) sc_law.nd (SI.seq (SE.callP c__law_walk hr (by rfl) (SA.cons (SE.frz (SE.v 4 (by rfl) (by rfl) (by rfl) (by rfl))) (SA.cons (SE.v 6 (by rfl) (by rfl) (by rfl) (by rfl)) SA.nil (by rfl)) (by rfl)) (by rfl) (by rfl) (by rfl))) (blkOk_by (own := [("own", 7)]) (N := ["script", "feed", "n", "states", "table", "kept", "at", "own", "half", "good", "size", "due", "places", "joined"]) (sc := defScope s_law) (by decide +kernel)) (by decide) (fun _ _ _ _ _ => (SG.n (i := 7) sc_law.nd (by rfl) (by rfl) (by rfl))) (fun _ _ _ _ _ => STs.nil) (fun _ _ _ _ _ => (SE.ix (SE.v 3 (by rfl) (by rfl) (by rfl) (by rfl)) (SE.v 7 (by rfl) (by rfl) (by rfl) (by rfl)) (fun _ _ => (by rfl)))) (fun _ => (by rfl))) SA.nil (by rfl)) (by rfl)) (by rfl) (by rfl) (by rfl)) (fun _ => (by rfl)))) (SSs.one (SS.ret SE.bl)) SSs.nil)
      (SSs.cons (SS.st (i := 8) sc_law.nd (by rfl) (by rfl) (SE.div (SE.len (by rfl) m_len (SE.v 3 (by rfl) (by rfl) (by rfl) (by rfl)) (by rfl)) SE.int) (by rfl) (by rfl))
      (SSs.cons (SS.st (i := 9) sc_law.nd (by rfl) (by rfl) (SE.cmp (SE.len (by rfl) m_len (SE.lc (by rfl) (by rfl) sc_law.nd (SI.range1 (by rfl) m_range (SA.cons (SE.frz (SE.v 8 (by rfl) (by rfl) (by rfl) (by rfl))) SA.nil (by rfl)) (by rfl)) (blkOk_by (own := [("own", 7)]) (N := ["script", "feed", "n", "states", "table", "kept", "at", "own", "half", "good", "size", "due", "places", "joined"]) (sc := defScope s_law) (by decide +kernel)) (by decide) (fun _ _ _ _ _ => (SG.n (i := 7) sc_law.nd (by rfl) (by rfl) (by rfl))) (fun _ _ _ _ _ => (STs.one (ST.cmp (SE.ix (SE.v 4 (by rfl) (by rfl) (by rfl) (by rfl)) (SE.v 7 (by rfl) (by rfl) (by rfl) (by rfl)) (fun _ _ => (by rfl))) (SE.ix (SE.v 4 (by rfl) (by rfl) (by rfl) (by rfl)) (SE.add (SE.v 7 (by rfl) (by rfl) (by rfl) (by rfl)) (SE.v 8 (by rfl) (by rfl) (by rfl) (by rfl))) (fun _ _ => (by rfl))) (cmp_eq (room64 hr)) (by rfl)))) (fun _ _ _ _ _ => (SE.v 7 (by rfl) (by rfl) (by rfl) (by rfl))) (fun _ => (by rfl))) (by rfl)) SE.int (cmp_eq (room64 hr)) (by rfl)) (by rfl) (by rfl))
      (SSs.cons (SS.ite (SW.test (SW.or (ST.not (SE.truth (SE.callP c__law_alike hr (by rfl) (SA.cons (SE.callP c_is_round_table hr (by rfl) (SA.cons (SE.frz (SE.v 4 (by rfl) (by rfl) (by rfl) (by rfl))) SA.nil (by rfl)) (by rfl) (by rfl) (by rfl)) (SA.cons (SE.v 9 (by rfl) (by rfl) (by rfl) (by rfl)) SA.nil (by rfl)) (by rfl)) (by rfl) (by rfl) (by rfl)) (fun _ => (by rfl)))) (SW.or1 (ST.cmp (SE.v 4 (by rfl) (by rfl) (by rfl) (by rfl)) (SE.v 5 (by rfl) (by rfl) (by rfl) (by rfl)) (cmp_ne (room64 hr)) (by rfl))))) (SSs.one (SS.ret SE.bl)) SSs.nil)
      (SSs.cons (SS.st (i := 10) sc_law.nd (by rfl) (by rfl) (SE.add SE.int (SE.callF c__law_draw hr (by rfl) (i := 1) (by rfl) (vis_of (by rfl)) (by rfl) (by rfl) (SA.cons SE.int SA.nil (by rfl)) (by rfl) (by rfl) (by rfl))) (by rfl) (by rfl))
      (SSs.cons (SS.ite (ST.not (SE.truth (SE.callP c__law_alike hr (by rfl) (SA.cons (SE.callP c_count_greatest_rounds hr (by rfl) (SA.cons (SE.frz (SE.v 10 (by rfl) (by rfl) (by rfl) (by rfl))) SA.nil (by rfl)) (by rfl) (by rfl) (by rfl)) (SA.cons (SE.callP c__law_counted hr (by rfl) (SA.cons (SE.frz (SE.v 10 (by rfl) (by rfl) (by rfl) (by rfl))) SA.nil (by rfl)) (by rfl) (by rfl) (by rfl)) SA.nil (by rfl)) (by rfl)) (by rfl) (by rfl) (by rfl)) (fun _ => (by rfl)))) (SSs.one (SS.ret SE.bl)) SSs.nil)
      (SSs.cons (SS.st (i := 10) sc_law.nd (by rfl) (by rfl) (SE.add SE.int (SE.callF c__law_draw hr (by rfl) (i := 1) (by rfl) (vis_of (by rfl)) (by rfl) (by rfl) (SA.cons SE.int SA.nil (by rfl)) (by rfl) (by rfl) (by rfl))) (by rfl) (by rfl))
      (SSs.cons (SS.ite (ST.not (SE.truth (SE.callP c__law_alike hr (by rfl) (SA.cons (SE.callP c_count_greatest_rounds hr (by rfl) (SA.cons (SE.frz (SE.v 10 (by rfl) (by rfl) (by rfl) (by rfl))) SA.nil (by rfl)) (by rfl) (by rfl) (by rfl)) (SA.cons (SE.ix (SE.lst (SA.cons SE.int (SA.cons SE.int (SA.cons SE.int (SA.cons SE.int (SA.cons SE.int (SA.cons SE.int SA.nil (by rfl)) (by rfl)) (by rfl)) (by rfl)) (by rfl)) (by rfl))) (SE.sub (SE.v 10 (by rfl) (by rfl) (by rfl) (by rfl)) SE.int) (fun _ _ => (by rfl))) SA.nil (by rfl)) (by rfl)) (by rfl) (by rfl) (by rfl)) (fun _ => (by rfl)))) (SSs.one (SS.ret SE.bl)) SSs.nil)
      (SSs.cons (SS.ite (ST.not (SE.truth (SE.v 9 (by rfl) (by rfl) (by rfl) (by rfl)) (fun _ => (by rfl)))) (SSs.one (SS.ret SE.bl)) SSs.nil)
      (SSs.cons (SS.lc (i := 11) (by rfl) (by rfl) sc_law.nd (by rfl) (by rfl) (sw_true (by rfl) (by rfl) (by rfl) (by decide +kernel)) (SI.seq (SE.callP c__law_rounds hr (by rfl) (SA.cons (SE.frz (SE.v 4 (by rfl) (by rfl) (by rfl) (by rfl))) SA.nil (by rfl)) (by rfl) (by rfl) (by rfl))) (blkOk_by (own := [("places", 12)]) (N := ["script", "feed", "n", "states", "table", "kept", "at", "own", "half", "good", "size", "due", "places", "joined"]) (sc := defScope s_law) (by decide +kernel)) (by decide) (fun _ _ _ _ _ => (SG.n (i := 12) sc_law.nd (by rfl) (by rfl) (by rfl))) (fun _ _ _ _ _ => STs.nil) (fun _ _ _ _ _ => (SE.lc (by rfl) (by rfl) sc_law.nd (SI.seq (SE.v 12 (by rfl) (by rfl) (by rfl) (by rfl))) (blkOk_by (own := [("own", 7)]) (N := ["script", "feed", "n", "states", "table", "kept", "at", "own", "half", "good", "size", "due", "places", "joined"]) (sc := relS _ (defScope s_law)) (by decide +kernel)) (by decide) (fun _ _ _ _ _ => (SG.n (i := 7) sc_law.nd (by rfl) (by rfl) (by rfl))) (fun _ _ _ _ _ => STs.nil) (fun _ _ _ _ _ => (SE.ix (SE.v 3 (by rfl) (by rfl) (by rfl) (by rfl)) (SE.v 7 (by rfl) (by rfl) (by rfl) (by rfl)) (fun _ _ => (by rfl)))) (fun _ => (by rfl)))) (fun _ => (by rfl)))
      (SSs.cons (SS.ite (ST.not (SE.truth (SE.callP c__law_alike hr (by rfl) (SA.cons (SE.callP c_rounds_of_table hr (by rfl) (SA.cons (SE.frz (SE.v 4 (by rfl) (by rfl) (by rfl) (by rfl))) SA.nil (by rfl)) (by rfl) (by rfl) (by rfl)) (SA.cons (SE.frz (SE.v 11 (by rfl) (by rfl) (by rfl) (by rfl))) SA.nil (by rfl)) (by rfl)) (by rfl) (by rfl) (by rfl)) (fun _ => (by rfl)))) (SSs.one (SS.ret SE.bl)) SSs.nil)
      (SSs.cons (SS.ite (ST.not (SE.truth (SE.callP c__law_alike hr (by rfl) (SA.cons (SE.callP c_row_of_table hr (by rfl) (SA.cons (SE.frz (SE.v 4 (by rfl) (by rfl) (by rfl) (by rfl))) SA.nil (by rfl)) (by rfl) (by rfl) (by rfl)) (SA.cons (SE.lc (by rfl) (by rfl) sc_law.nd (SI.seq (SE.callP c__law_walk hr (by rfl) (SA.cons (SE.frz (SE.v 4 (by rfl) (by rfl) (by rfl) (by rfl))) (SA.cons SE.int SA.nil (by rfl)) (by rfl)) (by rfl) (by rfl) (by rfl))) (blkOk_by (own := [("own", 7)]) (N := ["script", "feed", "n", "states", "table", "kept", "at", "own", "half", "good", "size", "due", "places", "joined"]) (sc := defScope s_law) (by decide +kernel)) (by decide) (fun _ _ _ _ _ => (SG.n (i := 7) sc_law.nd (by rfl) (by rfl) (by rfl))) (fun _ _ _ _ _ => STs.nil) (fun _ _ _ _ _ => (SE.ix (SE.ix (SE.v 3 (by rfl) (by rfl) (by rfl) (by rfl)) (SE.v 7 (by rfl) (by rfl) (by rfl) (by rfl)) (fun _ _ => (by rfl))) SE.int (fun _ _ => (by rfl)))) (fun _ => (by rfl))) SA.nil (by rfl)) (by rfl)) (by rfl) (by rfl) (by rfl)) (fun _ => (by rfl)))) (SSs.one (SS.ret SE.bl)) SSs.nil)
      (SSs.cons (SS.st (i := 13) sc_law.nd (by rfl) (by rfl) (SE.callP c__law_joined hr (by rfl) (SA.cons (SE.frz (SE.v 4 (by rfl) (by rfl) (by rfl) (by rfl))) SA.nil (by rfl)) (by rfl) (by rfl) (by rfl)) (by rfl) (by rfl))
      (SSs.cons (SS.ite (SW.test (SW.or (ST.not (SE.truth (SE.callP c__law_alike hr (by rfl) (SA.cons (SE.callP c_joined_table hr (by rfl) (SA.cons (SE.frz (SE.v 4 (by rfl) (by rfl) (by rfl) (by rfl))) SA.nil (by rfl)) (by rfl) (by rfl) (by rfl)) (SA.cons (SE.frz (SE.v 13 (by rfl) (by rfl) (by rfl) (by rfl))) SA.nil (by rfl)) (by rfl)) (by rfl) (by rfl) (by rfl)) (fun _ => (by rfl)))) (SW.or1 (ST.cmp (SE.v 4 (by rfl) (by rfl) (by rfl) (by rfl)) (SE.v 5 (by rfl) (by rfl) (by rfl) (by rfl)) (cmp_ne (room64 hr)) (by rfl))))) (SSs.one (SS.ret SE.bl)) SSs.nil)
      (SSs.one (SS.ret (SE.callP c__law_one_round hr (by rfl) (SA.cons (SE.frz (SE.v 13 (by rfl) (by rfl) (by rfl) (by rfl))) (SA.cons (SE.frz (SE.v 3 (by rfl) (by rfl) (by rfl) (by rfl))) (SA.cons (SE.frz (SE.v 2 (by rfl) (by rfl) (by rfl) (by rfl))) SA.nil (by rfl)) (by rfl)) (by rfl)) (by rfl) (by rfl) (by rfl)))))))))))))))))))))))))
end
end LK
namespace LK
open LW

/-! ### states as numbers, as rows of bits -/
def st : Nat → Nat → List Int
  | 0, _ => []
  | n + 1, a => st n (a / 2) ++ [((a % 2 : Nat) : Int)]
theorem st_len : ∀ n a, (st n a).length = n
  | 0, _ => rfl
  | n + 1, a => by simp [st, st_len n]
theorem st_head : ∀ n a, st (n + 1) a = ((a / 2 ^ n % 2 : Nat) : Int) :: st n a
  | 0, a => by simp [st]
  | n + 1, a => by
    have ih := st_head n (a / 2)
    rw [st, ih, List.cons_append, Nat.div_div_eq_div_mul, ← Nat.pow_succ']
    rfl
theorem st_mod : ∀ n a, st n (a % 2 ^ n) = st n a
  | 0, _ => rfl
  | n + 1, a => by
    have e1 : a % 2 ^ (n + 1) / 2 = a / 2 % 2 ^ n := by rw [Nat.pow_succ', Nat.mod_mul_right_div_self]
    have e2 : a % 2 ^ (n + 1) % 2 = a % 2 := Nat.mod_mod_of_dvd a ⟨2 ^ n, by rw [Nat.pow_succ']⟩
    rw [st, st, e1, e2, st_mod n]
def num (l : List Int) : Nat := l.foldl (fun f b => 2 * f + b.toNat) 0
theorem num_app (l : List Int) (b : Int) : num (l ++ [b]) = 2 * num l + b.toNat := by simp [num]
theorem num_st : ∀ n a, num (st n a) = a % 2 ^ n
  | 0, a => by simp [st, num, Nat.mod_one]
  | n + 1, a => by
    rw [st, num_app, num_st n, Int.toNat_natCast, Nat.pow_succ', Nat.mod_mul]
    omega
theorem st_inj {n a b : Nat} (ha : a < 2 ^ n) (hb : b < 2 ^ n) (h : st n a = st n b) : a = b := by
  have := congrArg num h
  rwa [num_st, num_st, Nat.mod_eq_of_lt ha, Nat.mod_eq_of_lt hb] at this
theorem st_bits : ∀ n a, ∀ x ∈ st n a, x = 0 ∨ x = 1
  | 0, _, x, h => by cases h
  | n + 1, a, x, h => by
    rw [st] at h
    rcases List.mem_append.mp h with h | h
    · exact st_bits n _ x h
    · have : x = ((a % 2 : Nat) : Int) := by simpa using h
      omega
theorem st_lex : ∀ n a b, lexL (st n a) (st n b) = decide (a % 2 ^ n < b % 2 ^ n)
  | 0, a, b => by simp [st, lexL, Nat.mod_one]
  | n + 1, a, b => by
    rw [st_head, st_head, lexL, st_lex n, Nat.pow_succ, Nat.mod_mul, Nat.mod_mul (x := b)]
    have ha : a % 2 ^ n < 2 ^ n := Nat.mod_lt _ (Nat.two_pow_pos n)
    have hb : b % 2 ^ n < 2 ^ n := Nat.mod_lt _ (Nat.two_pow_pos n)
    generalize 2 ^ n = P at *
    have h1 : a / P % 2 < 2 := Nat.mod_lt _ (by decide)
    have h2 : b / P % 2 < 2 := Nat.mod_lt _ (by decide)
    generalize a / P % 2 = x at *
    generalize b / P % 2 = y at *
    generalize a % P = u at *
    generalize b % P = v at *
    have hx : x = 0 ∨ x = 1 := by omega
    have hy : y = 0 ∨ y = 1 := by omega
    rcases hx with rfl | rfl <;> rcases hy with rfl | rfl
    · simp
    · simp; omega
    · simp; omega
    · simp
/-- all states in order -/
def sts (n : Nat) : List (List Int) := (List.range (2 ^ n)).map (st n)
theorem sts_len (n : Nat) : (sts n).length = 2 ^ n := by simp [sts]
theorem range_two : ∀ m, (List.range m).flatMap (fun a => [2 * a, 2 * a + 1]) = List.range (2 * m)
  | 0 => rfl
  | m + 1 => by
    rw [List.range_succ, List.flatMap_append, range_two m, show 2 * (m + 1) = 2 * m + 1 + 1 by omega, List.range_succ, List.range_succ]
    simp
theorem sts_succ (n : Nat) : (sts n).flatMap (fun l => [l ++ [0], l ++ [1]]) = sts (n + 1) := by
  rw [sts, sts, Nat.pow_succ', ← range_two, List.map_flatMap, List.flatMap_map]
  refine congrArg (fun f => List.flatMap f (List.range (2 ^ n))) (funext fun a => ?_)
  have e1 : 2 * a / 2 = a := by omega
  have e2 : (2 * a + 1) / 2 = a := by omega
  have e3 : (2 * a + 1) % 2 = 1 := by omega
  simp [st, e1, e2, e3]
theorem sts_get {n a : Nat} (h : a < 2 ^ n) : (sts n)[a]? = some (st n a) := by simp [sts, h]
theorem sts_sorted (n : Nat) : (sts n).Pairwise leL := by
  refine List.pairwise_map.mpr (List.Pairwise.imp_of_mem (fun {a b} ha hb h => ?_) List.pairwise_lt_range)
  have ha : a < 2 ^ n := by simpa using ha
  have hb : b < 2 ^ n := by simpa using hb
  show lexL (st n b) (st n a) = false
  rw [st_lex, Nat.mod_eq_of_lt ha, Nat.mod_eq_of_lt hb]
  exact decide_eq_false (by omega)

/-! ### tables -/
/-- a table of bits -/
def Tb (n : Nat) (t : List Int) : Prop := t.length = 2 ^ n ∧ ∀ x ∈ t, x = 0 ∨ x = 1
def nx (t : List Int) (a : Nat) : Nat := a % (t.length / 2) * 2 + (t.getD a 0).toNat
theorem Tb.get {n : Nat} {t : List Int} (h : Tb n t) (a : Nat) : t.getD a 0 = 0 ∨ t.getD a 0 = 1 := by
  by_cases ha : a < t.length
  · have : t.getD a 0 = t[a] := by simp [ha]
    rw [this]; exact h.2 _ (List.getElem_mem ha)
  · left; simp [Nat.le_of_not_lt ha]
theorem Tb.half {n : Nat} {t : List Int} (h : Tb (n + 1) t) : t.length / 2 = 2 ^ n := by rw [h.1, Nat.pow_succ]; omega
theorem Tb.nx_lt {n : Nat} {t : List Int} (h : Tb (n + 1) t) (a : Nat) : nx t a < 2 ^ (n + 1) := by
  unfold nx
  rw [h.half, Nat.pow_succ]
  have : a % 2 ^ n < 2 ^ n := Nat.mod_lt _ (Nat.two_pow_pos n)
  have := h.get a
  omega
theorem Tb.nx_st {n : Nat} {t : List Int} (h : Tb (n + 1) t) (a : Nat) : st (n + 1) (nx t a) = (st (n + 1) a).drop 1 ++ [t.getD a 0] := by
  rw [st_head n a, List.drop_one, List.tail_cons, st]
  unfold nx
  rw [h.half]
  have e : (a % 2 ^ n * 2 + (t.getD a 0).toNat) / 2 = a % 2 ^ n := by have := h.get a; omega
  have e2 : (((a % 2 ^ n * 2 + (t.getD a 0).toNat) % 2 : Nat) : Int) = t.getD a 0 := by have := h.get a; omega
  rw [e, e2, st_mod]
theorem Tb.nx_int {n : Nat} {t : List Int} (h : Tb (n + 1) t) (a : Nat) : ((nx t a : Nat) : Int) = (a : Int) % ((t.length / 2 : Nat) : Int) * 2 + t.getD a 0 := by
  unfold nx
  have := h.get a
  have e : (((t.getD a 0).toNat : Nat) : Int) = t.getD a 0 := by omega
  rw [Int.natCast_add, Int.natCast_mul, Int.natCast_emod, e]
  rfl

/-! ### walks -/
def itF (f : Nat → Nat) : Nat → Nat → Nat
  | 0, a => a
  | k + 1, a => itF f k (f a)
theorem itF_succ (f : Nat → Nat) : ∀ k a, itF f (k + 1) a = f (itF f k a)
  | 0, _ => rfl
  | k + 1, a => by rw [itF, itF_succ f k, itF]
theorem itF_add (f : Nat → Nat) : ∀ j k a, itF f (j + k) a = itF f j (itF f k a)
  | j, 0, a => rfl
  | j, k + 1, a => by rw [← Nat.add_assoc, itF, itF_add f j k, itF]
def ws (f : Nat → Nat) (a m : Nat) : List Nat := (List.range m).map fun j => itF f j a
theorem ws_succ (f : Nat → Nat) (a m : Nat) : ws f a (m + 1) = ws f a m ++ [itF f m a] := by simp [ws, List.range_succ]
theorem ws_len (f : Nat → Nat) (a m : Nat) : (ws f a m).length = m := by simp [ws]
theorem mem_ws {f : Nat → Nat} {a m x : Nat} : x ∈ ws f a m ↔ ∃ j, j < m ∧ itF f j a = x := by simp [ws]
/-- m steps till one comes again -/
structure Wk (f : Nat → Nat) (N a m : Nat) : Prop where
  pos : 0 < m
  le : m ≤ N
  new : ∀ l, l < m → itF f l a ∉ ws f a l
  old : itF f m a ∈ ws f a m
theorem itF_lt {f : Nat → Nat} {N : Nat} (hf : ∀ a, a < N → f a < N) : ∀ k a, a < N → itF f k a < N
  | 0, _, h => h
  | k + 1, a, h => itF_lt hf k _ (hf a h)
theorem ws_nodup {f : Nat → Nat} {a : Nat} : ∀ m, (∀ l, l < m → itF f l a ∉ ws f a l) → (ws f a m).Nodup
  | 0, _ => .nil
  | m + 1, h => by
    rw [ws_succ]
    refine List.nodup_append.mpr ⟨ws_nodup m fun l hl => h l (by omega), by simp, fun x hx y hy => ?_⟩
    have : y = itF f m a := by simpa using hy
    subst this
    exact fun z => h m (by omega) (z ▸ hx)
theorem nodup_lt {xs : List Nat} {N : Nat} (h : xs.Nodup) (hN : ∀ x ∈ xs, x < N) : xs.length ≤ N := by
  have := nodup_le (ys := List.range N) h fun k hk => by simpa using hN k hk
  simpa using this
theorem least {P : Nat → Prop} [DecidablePred P] : ∀ N, (∃ i, i ≤ N ∧ P i) → ∃ m, m ≤ N ∧ P m ∧ ∀ l, l < m → ¬ P l
  | 0, ⟨i, hi, h⟩ => ⟨0, Nat.le_refl _, by rwa [show i = 0 by omega] at h, fun l hl => by omega⟩
  | N + 1, ⟨i, hi, h⟩ => by
    by_cases c : ∃ j, j ≤ N ∧ P j
    · obtain ⟨m, h1, h2, h3⟩ := least N c
      exact ⟨m, by omega, h2, h3⟩
    · have : i = N + 1 := by
        by_cases q : i ≤ N
        · exact absurd ⟨i, q, h⟩ c
        · omega
      subst this
      exact ⟨N + 1, Nat.le_refl _, h, fun l hl hp => c ⟨l, by omega, hp⟩⟩
theorem wk_ex {f : Nat → Nat} {N a : Nat} (hf : ∀ a, a < N → f a < N) (ha : a < N) : ∃ m, Wk f N a m := by
  have ex : ∃ i, i ≤ N ∧ itF f i a ∈ ws f a i := by
    refine Classical.byContradiction fun h => ?_
    have h : ∀ i, i ≤ N → itF f i a ∉ ws f a i := fun i hi z => h ⟨i, hi, z⟩
    have nd := ws_nodup (N + 1) fun l hl => h l (by omega)
    have := nodup_lt (N := N) nd fun x hx => by
      obtain ⟨j, _, rfl⟩ := mem_ws.mp hx
      exact itF_lt hf j a ha
    rw [ws_len] at this
    omega
  obtain ⟨m, h1, h2, h3⟩ := least N ex
  refine ⟨m, ?_, h1, h3, h2⟩
  rcases Nat.eq_zero_or_pos m with rfl | h
  · simp [ws] at h2
  · exact h
theorem Wk.uniq {f : Nat → Nat} {N a m m' : Nat} (h : Wk f N a m) (h' : Wk f N a m') : m = m' := by
  rcases Nat.lt_trichotomy m m' with q | q | q
  · exact absurd h.old (h'.new m q)
  · exact q
  · exact absurd h'.old (h.new m' q)
/-- as a function -/
def wlk (f : Nat → Nat) : Nat → List Nat → Nat → List Nat
  | 0, found, _ => found
  | k + 1, found, a => if a ∈ found then found else wlk f k (found ++ [a]) (f a)
theorem wlk_ws {f : Nat → Nat} {N a m : Nat} (h : Wk f N a m) : ∀ k i, i ≤ m → m ≤ i + k → wlk f k (ws f a i) (itF f i a) = ws f a m
  | 0, i, h1, h2 => by rw [show i = m by omega]; rfl
  | k + 1, i, h1, h2 => by
    unfold wlk
    by_cases q : i = m
    · subst q
      rw [if_pos h.old]
    · rw [if_neg (h.new i (by omega)), ← ws_succ, ← itF_succ f i a]
      exact wlk_ws h k (i + 1) (by omega) (by omega)
def wk (f : Nat → Nat) (N a : Nat) : List Nat := wlk f N [] a
theorem wk_eq {f : Nat → Nat} {N a m : Nat} (h : Wk f N a m) : wk f N a = ws f a m := wlk_ws h N 0 (Nat.zero_le _) (by have := h.le; omega)
end LK
namespace LK
open LW

/-! ### rounds of a table whose states are come to from one alone -/
/-- one to one within the numbers below N -/
structure Pm (f : Nat → Nat) (N : Nat) : Prop where
  lt : ∀ a, a < N → f a < N
  inj : ∀ a b, a < N → b < N → f a = f b → a = b
section
variable {f g : Nat → Nat} {N : Nat}
theorem Pm.itlt (h : Pm f N) (k : Nat) {a : Nat} (ha : a < N) : itF f k a < N := itF_lt h.lt k a ha
theorem Pm.itinj (h : Pm f N) : ∀ k {a b : Nat}, a < N → b < N → itF f k a = itF f k b → a = b
  | 0, _, _, _, _, e => e
  | k + 1, a, b, ha, hb, e => h.inj a b ha hb (h.itinj k (h.lt a ha) (h.lt b hb) e)
/-- the walk from a comes back to a -/
theorem Pm.back (h : Pm f N) {a m : Nat} (ha : a < N) (w : Wk f N a m) : itF f m a = a := by
  obtain ⟨j, hj, e⟩ := mem_ws.mp w.old
  rcases Nat.eq_zero_or_pos j with rfl | hp
  · exact e.symm
  · exfalso
    have e2 : itF f j (itF f (m - j) a) = itF f j a := by rw [← itF_add, show j + (m - j) = m by omega, e]
    have e3 := h.itinj j (h.itlt (m - j) ha) ha e2
    exact w.new (m - j) (by omega) (mem_ws.mpr ⟨0, by omega, e3.symm⟩)
/-- b lies on the round of a -/
def On (f : Nat → Nat) (a b : Nat) : Prop := ∃ k, itF f k a = b
theorem On.refl (a : Nat) : On f a a := ⟨0, rfl⟩
theorem On.trans {a b c : Nat} : On f a b → On f b c → On f a c
  | ⟨k, e⟩, ⟨j, e'⟩ => ⟨j + k, by rw [itF_add, e, e']⟩
theorem On.step (a : Nat) : On f a (f a) := ⟨1, rfl⟩
theorem itF_mul {m a : Nat} (e : itF f m a = a) : ∀ q, itF f (q * m) a = a
  | 0 => by rw [Nat.zero_mul]; rfl
  | q + 1 => by rw [Nat.succ_mul, itF_add, e, itF_mul e q]
theorem Pm.on_ws (h : Pm f N) {a b m : Nat} (ha : a < N) (w : Wk f N a m) : On f a b ↔ b ∈ ws f a m := by
  constructor
  · rintro ⟨k, rfl⟩
    refine mem_ws.mpr ⟨k % m, Nat.mod_lt _ w.pos, ?_⟩
    have : itF f k a = itF f (k % m) a := by
      conv => lhs; rw [← Nat.mod_add_div k m, Nat.mul_comm, itF_add, itF_mul (h.back ha w)]
    exact this.symm
  · intro hb
    obtain ⟨j, _, e⟩ := mem_ws.mp hb
    exact ⟨j, e⟩
theorem Pm.on_symm (h : Pm f N) {a b : Nat} (ha : a < N) (o : On f a b) : On f b a := by
  obtain ⟨m, w⟩ := wk_ex h.lt ha
  obtain ⟨j, hj, e⟩ := mem_ws.mp ((h.on_ws ha w).mp o)
  exact ⟨m - j, by rw [← e, ← itF_add, show m - j + j = m by omega, h.back ha w]⟩
theorem Pm.on_lt (h : Pm f N) {a b : Nat} (ha : a < N) : On f a b → b < N := fun ⟨k, e⟩ => e ▸ h.itlt k ha
/-- two rounds joined: g goes on from x as f from y, and from y as f from x -/
theorem join_on (hf : Pm f N) {x y : Nat} (hx : x < N) (hy : y < N) (gx : g x = f y) (gy : g y = f x) (go : ∀ a, a < N → a ≠ x → a ≠ y → g a = f a) (no : ¬ On f x y) :
    On g x y ∧ ∀ a b, a < N → On f a b → On g a b := by
  -- from the next of y to y
  have way : ∀ u v : Nat, u < N → v < N → ¬ On f u v → (∀ a, a < N → a ≠ u → a ≠ v → g a = f a) → On g (f v) v := fun u v hu hv no go => by
    obtain ⟨m, w⟩ := wk_ex hf.lt hv
    have pos := w.pos
    have key : ∀ k, k < m → itF g k (f v) = itF f k (f v) := by
      intro k
      induction k with
      | zero => intro _; rfl
      | succ k ih =>
        intro hk
        rw [itF_succ, itF_succ, ih (by omega)]
        have e : itF f k (f v) = itF f (k + 1) v := rfl
        refine go _ (hf.itlt k (hf.lt v hv)) (fun z => ?_) (fun z => ?_)
        · rw [e] at z
          exact no (hf.on_symm hv ⟨k + 1, z⟩)
        · rw [e] at z
          exact w.new (k + 1) (by omega) (mem_ws.mpr ⟨0, by omega, z.symm⟩)
    refine ⟨m - 1, ?_⟩
    rw [key (m - 1) (by omega)]
    have : itF f (m - 1) (f v) = itF f (m - 1 + 1) v := rfl
    rw [this, show m - 1 + 1 = m by omega, hf.back hv w]
  have w1 : On g (f y) y := way x y hx hy no go
  have w2 : On g (f x) x := way y x hy hx (fun z => no (hf.on_symm hy z)) fun a ha h1 h2 => go a ha h2 h1
  have xy : On g x y := On.trans ⟨1, gx⟩ w1
  have yx : On g y x := On.trans ⟨1, gy⟩ w2
  have one : ∀ a, a < N → On g a (f a) := fun a ha => by
    by_cases h1 : a = x
    · subst h1; exact xy.trans ⟨1, gy⟩
    · by_cases h2 : a = y
      · subst h2; exact yx.trans ⟨1, gx⟩
      · exact ⟨1, go a ha h1 h2⟩
  refine ⟨xy, fun a b ha ⟨k, e⟩ => ?_⟩
  subst e
  induction k with
  | zero => exact On.refl _
  | succ k ih => rw [itF_succ]; exact (ih ⟨k, rfl⟩).trans (one _ (hf.itlt k ha))
end

/-! ### joining a table -/
/-- unlike bits for states that differ in the oldest bit alone -/
def Gd (n : Nat) (t : List Int) : Prop := Tb (n + 1) t ∧ ∀ a, a < 2 ^ n → t.getD a 0 ≠ t.getD (a + 2 ^ n) 0
theorem Gd.pm {n : Nat} {t : List Int} (h : Gd n t) : Pm (nx t) (2 ^ (n + 1)) := by
  refine ⟨fun a _ => h.1.nx_lt a, fun a b ha hb e => ?_⟩
  unfold nx at e
  rw [h.1.half] at e
  have b1 := h.1.get a
  have b2 := h.1.get b
  have e1 : a % 2 ^ n = b % 2 ^ n := by omega
  have e2 : t.getD a 0 = t.getD b 0 := by omega
  rw [Nat.pow_succ] at ha hb
  have key : ∀ c, c < 2 ^ n * 2 → c = c % 2 ^ n ∨ c = c % 2 ^ n + 2 ^ n := fun c hc => by
    by_cases q : c < 2 ^ n
    · left; rw [Nat.mod_eq_of_lt q]
    · right
      rw [Nat.mod_eq_sub_mod (by omega), Nat.mod_eq_of_lt (by omega)]
      omega
  have lt : a % 2 ^ n < 2 ^ n := Nat.mod_lt _ (Nat.two_pow_pos n)
  have ne := h.2 (a % 2 ^ n) lt
  rcases key a ha with qa | qa <;> rcases key b hb with qb | qb
  · rw [qa, qb, e1]
  · exfalso
    rw [qa, qb, ← e1] at e2
    exact ne e2
  · exfalso
    rw [qa, qb, ← e1] at e2
    exact ne e2.symm
  · rw [qa, qb, e1]
def swapT (t : List Int) (a b : Nat) : List Int := (t.set a (t.getD b 0)).set b (t.getD a 0)
theorem swap_len (t : List Int) (a b : Nat) : (swapT t a b).length = t.length := by simp [swapT]
theorem swap_get {t : List Int} {a b : Nat} (ha : a < t.length) (hb : b < t.length) (i : Nat) : (swapT t a b).getD i 0 = if i = b then t.getD a 0 else if i = a then t.getD b 0 else t.getD i 0 := by
  unfold swapT
  simp only [List.getD_eq_getElem?_getD, List.getElem?_set, List.length_set]
  by_cases h1 : i = b
  · subst h1; simp [hb]
  · have h1' : ¬ b = i := fun z => h1 z.symm
    by_cases h2 : i = a
    · subst h2; simp [h1, h1', ha]
    · have h2' : ¬ a = i := fun z => h2 z.symm
      simp [h1, h1', h2, h2']
theorem Gd.swap {n a : Nat} {t : List Int} (h : Gd n t) (ha : a < 2 ^ n) : Gd n (swapT t a (a + 2 ^ n)) := by
  have hl := h.1.1
  rw [Nat.pow_succ] at hl
  have sg := swap_get (t := t) (a := a) (b := a + 2 ^ n) (by omega) (by omega)
  refine ⟨⟨by rw [swap_len, h.1.1], fun x hx => ?_⟩, fun i hi => ?_⟩
  · obtain ⟨i, hi, e⟩ := List.getElem_of_mem hx
    have : (swapT t a (a + 2 ^ n)).getD i 0 = x := by simp [hi, e]
    rw [sg] at this
    have b1 := h.1.get a
    have b2 := h.1.get (a + 2 ^ n)
    have b3 := h.1.get i
    split at this
    · omega
    · split at this <;> omega
  · rw [sg, sg]
    have p := Nat.two_pow_pos n
    by_cases q : i = a
    · subst q
      have e1 : ¬ i = i + 2 ^ n := by omega
      rw [if_neg e1, if_pos rfl, if_pos rfl]
      exact (h.2 i hi).symm
    · have e1 : ¬ i = a + 2 ^ n := by omega
      have e2 : ¬ i + 2 ^ n = a + 2 ^ n := by omega
      have e3 : ¬ i + 2 ^ n = a := by omega
      rw [if_neg e1, if_neg q, if_neg e2, if_neg e3]
      exact h.2 i hi
/-- one step of joining; apart: the two states lie on unlike rounds -/
def apart (t : List Int) (n a : Nat) : Bool := decide (a + 2 ^ n ∉ wk (nx t) (2 ^ (n + 1)) a)
def joinStep (n : Nat) (t : List Int) (a : Nat) : List Int := if apart t n a = true then swapT t a (a + 2 ^ n) else t
def joinK (n : Nat) (t : List Int) (k : Nat) : List Int := (List.range k).foldl (joinStep n) t
theorem joinK_succ (n : Nat) (t : List Int) (k : Nat) : joinK n t (k + 1) = joinStep n (joinK n t k) k := by simp [joinK, List.range_succ]
theorem apart_on {n a : Nat} {t : List Int} (h : Gd n t) (ha : a < 2 ^ n) : apart t n a = true ↔ ¬ On (nx t) a (a + 2 ^ n) := by
  have hN : a < 2 ^ (n + 1) := by rw [Nat.pow_succ]; omega
  obtain ⟨m, w⟩ := wk_ex h.pm.lt hN
  rw [h.pm.on_ws hN w, ← wk_eq w]
  simp [apart]
theorem swap_nx {n a : Nat} {t : List Int} (h : Gd n t) (ha : a < 2 ^ n) : nx (swapT t a (a + 2 ^ n)) a = nx t (a + 2 ^ n) ∧ nx (swapT t a (a + 2 ^ n)) (a + 2 ^ n) = nx t a ∧ ∀ c, c ≠ a → c ≠ a + 2 ^ n → nx (swapT t a (a + 2 ^ n)) c = nx t c := by
  have hl := h.1.1
  rw [Nat.pow_succ] at hl
  have sg := swap_get (t := t) (a := a) (b := a + 2 ^ n) (by omega) (by omega)
  have p := Nat.two_pow_pos n
  have e1 : ¬ a = a + 2 ^ n := by omega
  have em : (a + 2 ^ n) % 2 ^ n = a % 2 ^ n := by simp
  unfold nx
  rw [swap_len, h.1.half]
  refine ⟨?_, ?_, fun c h1 h2 => ?_⟩
  · rw [sg, if_neg e1, if_pos rfl, em]
  · rw [sg, if_pos rfl, em]
  · rw [sg, if_neg h2, if_neg h1]
theorem joined_ok {n : Nat} {t : List Int} (h : Gd n t) : ∀ k, k ≤ 2 ^ n → Gd n (joinK n t k) ∧ ∀ a, a < k → On (nx (joinK n t k)) a (a + 2 ^ n)
  | 0, _ => ⟨h, fun a ha => by omega⟩
  | k + 1, hk => by
    obtain ⟨g, on⟩ := joined_ok h k (by omega)
    rw [joinK_succ]
    unfold joinStep
    have hN : ∀ a, a < 2 ^ n → a < 2 ^ (n + 1) ∧ a + 2 ^ n < 2 ^ (n + 1) := fun a ha => by rw [Nat.pow_succ]; omega
    by_cases q : apart (joinK n t k) n k = true
    · rw [if_pos q]
      obtain ⟨s1, s2, s3⟩ := swap_nx g (a := k) (by omega)
      have j := join_on g.pm (hN k (by omega)).1 (hN k (by omega)).2 s1 s2 (fun a _ => s3 a) ((apart_on g (by omega)).mp q)
      refine ⟨g.swap (by omega), fun a ha => ?_⟩
      by_cases e : a = k
      · subst e; exact j.1
      · exact j.2 a _ (hN a (by omega)).1 (on a (by omega))
    · rw [if_neg q]
      refine ⟨g, fun a ha => ?_⟩
      by_cases e : a = k
      · subst e
        exact Classical.byContradiction fun z => q ((apart_on g (by omega)).mpr z)
      · exact on a (by omega)
/-- all states lie on one round -/
theorem one_round {n : Nat} {t : List Int} (h : Gd n t) (on : ∀ a, a < 2 ^ n → On (nx t) a (a + 2 ^ n)) : ∀ a b, a < 2 ^ (n + 1) → b < 2 ^ (n + 1) → On (nx t) a b := by
  have pm := h.pm
  have pair : ∀ a b, a < 2 ^ (n + 1) → b < 2 ^ (n + 1) → a % 2 ^ n = b % 2 ^ n → On (nx t) a b := fun a b ha hb e => by
    have c : ∀ c, c < 2 ^ (n + 1) → On (nx t) (c % 2 ^ n) c := fun c hc => by
      have lt : c % 2 ^ n < 2 ^ n := Nat.mod_lt _ (Nat.two_pow_pos n)
      rw [Nat.pow_succ] at hc
      by_cases q : c < 2 ^ n
      · rw [Nat.mod_eq_of_lt q]; exact On.refl _
      · have e2 : c % 2 ^ n + 2 ^ n = c := by rw [Nat.mod_eq_sub_mod (by omega), Nat.mod_eq_of_lt (by omega)]; omega
        have := on (c % 2 ^ n) lt
        rwa [e2] at this
    have h1 := c a ha
    have h2 := c b hb
    rw [← e] at h2
    exact (pm.on_symm (by have := Nat.mod_lt a (Nat.two_pow_pos n); rw [Nat.pow_succ]; omega) h1).trans h2
  -- twice a, round
  have dbl : ∀ a, a < 2 ^ (n + 1) → On (nx t) a (2 * a % 2 ^ (n + 1)) := fun a ha => by
    have lt : a % 2 ^ n < 2 ^ n := Nat.mod_lt _ (Nat.two_pow_pos n)
    have e0 : 2 * a % 2 ^ (n + 1) = 2 * (a % 2 ^ n) := by rw [Nat.pow_succ', Nat.mul_mod_mul_left]
    have b1 := h.1.get (a % 2 ^ n)
    have b2 := h.1.get (a % 2 ^ n + 2 ^ n)
    have ne := h.2 _ lt
    have n1 : nx t (a % 2 ^ n) = a % 2 ^ n * 2 + (t.getD (a % 2 ^ n) 0).toNat := by unfold nx; rw [h.1.half, Nat.mod_mod]
    have n2 : nx t (a % 2 ^ n + 2 ^ n) = a % 2 ^ n * 2 + (t.getD (a % 2 ^ n + 2 ^ n) 0).toNat := by unfold nx; rw [h.1.half, Nat.add_mod_right, Nat.mod_mod]
    have l1 : a % 2 ^ n < 2 ^ (n + 1) := by rw [Nat.pow_succ]; omega
    have l2 : a % 2 ^ n + 2 ^ n < 2 ^ (n + 1) := by rw [Nat.pow_succ]; omega
    rw [e0]
    by_cases z : t.getD (a % 2 ^ n) 0 = 0
    · have : nx t (a % 2 ^ n) = 2 * (a % 2 ^ n) := by rw [n1, z]; simp; omega
      exact (pair a _ ha l1 (by rw [Nat.mod_mod])).trans ⟨1, this⟩
    · have : nx t (a % 2 ^ n + 2 ^ n) = 2 * (a % 2 ^ n) := by rw [n2, show t.getD (a % 2 ^ n + 2 ^ n) 0 = 0 by omega]; simp; omega
      exact (pair a _ ha l2 (by rw [Nat.add_mod_right, Nat.mod_mod])).trans ⟨1, this⟩
  have pows : ∀ k a, a < 2 ^ (n + 1) → On (nx t) a (2 ^ k * a % 2 ^ (n + 1)) := by
    intro k
    induction k with
    | zero => intro a ha; rw [Nat.pow_zero, Nat.one_mul, Nat.mod_eq_of_lt ha]; exact On.refl _
    | succ k ih =>
      intro a ha
      have h1 := ih a ha
      have h2 := dbl (2 ^ k * a % 2 ^ (n + 1)) (Nat.mod_lt _ (Nat.two_pow_pos _))
      have e : 2 * (2 ^ k * a % 2 ^ (n + 1)) % 2 ^ (n + 1) = 2 ^ (k + 1) * a % 2 ^ (n + 1) := by rw [Nat.mul_mod, Nat.mod_mod, ← Nat.mul_mod, ← Nat.mul_assoc, ← Nat.pow_succ']
      rw [e] at h2
      exact h1.trans h2
  have zero : ∀ a, a < 2 ^ (n + 1) → On (nx t) a 0 := fun a ha => by
    have := pows (n + 1) a ha
    rwa [Nat.mul_mod_right] at this
  exact fun a b ha hb => (zero a ha).trans (pm.on_symm hb (zero b hb))
/-- a walk along one round meets all states -/
theorem round_all {n a m : Nat} {t : List Int} (h : Gd n t) (on : ∀ a b, a < 2 ^ (n + 1) → b < 2 ^ (n + 1) → On (nx t) a b) (ha : a < 2 ^ (n + 1)) (w : Wk (nx t) (2 ^ (n + 1)) a m) : m = 2 ^ (n + 1) ∧ (ws (nx t) a m).Perm (List.range (2 ^ (n + 1))) := by
  have nd := ws_nodup m w.new
  have mem : ∀ x, x ∈ ws (nx t) a m ↔ x ∈ List.range (2 ^ (n + 1)) := fun x => by
    rw [← h.pm.on_ws ha w, List.mem_range]
    exact ⟨fun o => h.pm.on_lt ha o, fun hx => on a x ha hx⟩
  have p := (List.perm_ext_iff_of_nodup nd List.nodup_range).mpr mem
  refine ⟨?_, p⟩
  have := p.length_eq
  rwa [ws_len, List.length_range] at this
end LK
namespace LK
open PySem LW
open L2 (atI ixN)

/-! ### more of meanings -/
theorem dAug_eq {i : Nat} {g : REnv → L → L → Option L} {d : Den} {ρ ρ1 : REnv} {x y : T} {l : L} (h0 : ρ[i]? = some (.t x)) (h : d ρ = some (l, ρ1)) (hg : g ρ1 (.t x) l = some (.t y)) (hi : i < ρ1.length) : dAug i g d ρ = some (.nx, ρ1.set i (.t y)) := by
  simp only [dAug, h0, h, hg, Option.bind_some, stoE, hi, if_true, Option.map_some]
theorem gIMul_e (ρ : REnv) {i j : Int} (h : -(18446744073709551616) < j) (h2 : j < 18446744073709551616) : gIMul ρ (.t (.int i)) (.t (.int j)) = some (.t (.int (i * j))) := by simp [gIMul, h, h2]
theorem compD2_eq {src : DenI} {src1 : DenI0} {vs vs1 : List Nat} {g g1 : DenG} {dt dt1 : DenT} {de : Den} {ρ ρ1 ρ2 : REnv} {xs ys : List T} {ho : Option Nat} (hs : src ρ = some (xs, ho, ρ1)) (hl : compL2 vs g dt src1 vs1 g1 dt1 de xs (wipeE (hideO ho ρ1) vs) = some (ys, ρ2)) (hz : ys.length ≤ line) :
    compD2 src vs g dt src1 vs1 g1 dt1 de ρ = some (.own (.lst ys), restE ρ1 ρ2 (ho.toList ++ vs)) := by simp [compD2, hs, hl, hz]
theorem compL2_m {α : Type} {src1 : DenI0} {vs vs1 : List Nat} {g g1 : DenG} {dt1 : DenT} {de : Den} {ρ : REnv} (t : α → T) (y : α → List T) : ∀ as : List α,
    (∀ a ∈ as, ∃ ρa xs1 ρb ρc, g (t a) ρ = some ρa ∧ src1 ρa = some (xs1, ρb) ∧ compL vs1 g1 dt1 de xs1 (wipeE ρb vs1) = some (y a, ρc) ∧ wipeE ρc vs = ρ) → compL2 vs g dYes src1 vs1 g1 dt1 de (as.map t) ρ = some (as.flatMap y, ρ)
  | [], _ => rfl
  | a :: as, h => by
    obtain ⟨ρa, xs1, ρb, ρc, h1, h2, h3, h4⟩ := h a List.mem_cons_self
    have ih := compL2_m t y as fun x hx => h x (List.mem_cons_of_mem _ hx)
    simp only [List.map_cons, compL2, h1, Option.bind_some, dYes, if_true, h2, h3, h4, ih, Option.map_some, List.flatMap_cons]
theorem ii_len (ns : List Int) : (ii ns).length = ns.length := by simp [ii]
theorem clns_tups : ∀ ps : List (List Int), T.clns (ps.map tupT) = true
  | [] => rfl
  | p :: ps => by simp only [List.map_cons, T.clns, tupT, T.cln, clns_ii, Bool.true_and]; exact clns_tups ps
theorem deps_tups : ∀ ps : List (List Int), T.deps (ps.map tupT) ≤ 1
  | [] => Nat.zero_le _
  | p :: ps => by
    have h1 := deps_tups ps
    have h2 : T.deps (ii p) = 0 := deps_ii p
    show max (T.deps (ii p) + 1) (T.deps (ps.map tupT)) ≤ 1
    rw [h2]
    exact Nat.max_le.mpr ⟨Nat.le_refl _, h1⟩
theorem shp_tups (ps : List (List Int)) : (T.lst (ps.map tupT)).shp = true := by
  have h1 := clns_tups ps
  have h2 := deps_tups ps
  show (T.clns (ps.map tupT) && decide (T.deps (ps.map tupT) + 1 ≤ 64)) = true
  rw [h1, Bool.true_and]
  exact decide_eq_true (by omega)
theorem inl_tup (p : List Int) (ps : List (List Int)) : (tupT p).inl (ps.map tupT) = decide (p ∈ ps) := by
  unfold T.inl
  rw [List.any_map]
  have e : ((fun y => T.eqv y (tupT p)) ∘ tupT) = fun q => decide (q = p) := funext fun q => eqv_tup q p
  rw [e]
  by_cases h : p ∈ ps
  · rw [decide_eq_true h, List.any_eq_true]
    exact ⟨p, h, by simp⟩
  · rw [decide_eq_false h, List.any_eq_false]
    intro x hx
    simp only [decide_eq_true_eq]
    exact fun z => h (z ▸ hx)
theorem inl_int (p : Int) (ps : List Int) : (T.int p).inl (ii ps) = decide (p ∈ ps) := by
  unfold T.inl
  rw [ii, List.any_map]
  have e : ((fun y => T.eqv y (T.int p)) ∘ T.int) = fun q => decide (q = p) := funext fun q => eqv_int q p
  rw [e]
  by_cases h : p ∈ ps
  · rw [decide_eq_true h, List.any_eq_true]
    exact ⟨p, h, by simp⟩
  · rw [decide_eq_false h, List.any_eq_false]
    intro x hx
    simp only [decide_eq_true_eq]
    exact fun z => h (z ▸ hx)
theorem gIn_tr (ρ : REnv) {k : Nat} {x : T} {ys : List T} (hk : ρ[k]? = some (.own (.lst ys))) (h1 : x.shp = true) (h2 : (T.lst ys).shp = true) : gIn ρ (.t x) (.ref k) = some (x.inl ys) := by
  simp only [gIn, L.view, hk, h1, h2, Bool.and_self, if_true]
theorem gIn_to (ρ : REnv) {x : T} {ys : List T} (h1 : x.shp = true) (h2 : (T.lst ys).shp = true) : gIn ρ (.t x) (.own (.lst ys)) = some (x.inl ys) := by
  simp only [gIn, L.view, h1, h2, Bool.and_self, if_true]
theorem gB_e {g : REnv → L → L → Option Bool} {ρ : REnv} {l1 l2 : L} {b : Bool} (h : g ρ l1 l2 = some b) : gB g ρ l1 l2 = some (.t (.bl b)) := by simp only [gB, h, Option.map_some]
theorem gNot_e {ρ : REnv} {l1 l2 : L} {b : Bool} (h : gIn ρ l1 l2 = some b) : gNotIn ρ l1 l2 = some (!b) := by simp only [gNotIn, h, Option.map_some]
/-! ### power_of, all_tuples, size_of_table -/
theorem ev_power_of (k : Nat) (hk : k < 9000) : f_power_of [.int 2, .int (k : Nat)] = some (.t (.int ((2 ^ k : Nat) : Int))) := by
  let E (x : Int) (s : L) : REnv := E_power_of (.t (.int 2)) (.t (.int (k : Nat))) (.t (.int x)) s
  have step : ∀ (x : Int) (s : L), l_power_of_1 (E x s) = some (.nx, E (x * 2) s) := fun x s => dAug_eq (i := 2) (g := gIMul) (d := gVar 0) (ρ := E x s) (x := .int x) (l := .t (.int 2)) (ρ1 := E x s) rfl rfl (gIMul_e _ (by decide) (by decide)) (show 2 < 4 from by decide)
  have tg : ∀ (x : Int) (s : L) (i : Int), gNameT 3 (.int i) (E x s) = some (E x (.t (.int i))) := fun x s i => rfl
  obtain ⟨ρ', hl, x, s, hx, rfl⟩ := forL_range (g := gNameT 3) (db := l_power_of_1) (fun i ρ => ∃ x s, x = ((2 ^ i : Nat) : Int) ∧ ρ = E x s) k (by
    rintro i ρ hi ⟨x, s, hx, rfl⟩
    refine ⟨_, _, tg x s i, step x _, x * 2, _, ?_, rfl⟩
    rw [hx, Nat.pow_succ, Int.natCast_mul]
    rfl) (E 1 .un) ⟨1, .un, rfl, rfl⟩
  have s3 : t_power_of_3 (E 1 .un) = some (.nx, E x s) := dFor_eq (iRange1_eq (n := k) rfl (by omega)) hl
  have fin : d_power_of (E_power_of (.t (.int 2)) (.t (.int (k : Nat))) .un .un) = some (.ret (.t (.int x)), E x s) := by
    rw [d_power_of, dSeq_nx (ρ' := E 1 .un) rfl, dSeq_nx s3]
    rfl
  rw [← hx]
  exact bodyP_t (ρ' := E x s) rfl fin
theorem two_inner {ρb : L → REnv} {l : List Int} {de : Den} (hw : ∀ x, wipeE (ρb x) [5] = ρb .un) (hg : ∀ x, gNameT 5 x (ρb .un) = some (ρb (.t x))) (h : ∀ b : Int, de (ρb (.t (.int b))) = some (.t (tupT (l ++ [b])), ρb (.t (.int b)))) :
    compL [5] (gNameT 5) dYes de (rangeU 0 (Int.toNat 2)) (ρb .un) = some ([tupT (l ++ [0]), tupT (l ++ [1])], ρb .un) := by
  show compL [5] (gNameT 5) dYes de [.int 0, .int 1] (ρb .un) = _
  simp only [compL, hg, Option.bind_some, dYes, if_true, h, L.tree, hw, Option.map_some]
theorem app_tup {ρ : REnv} {i j : Nat} {l : List Int} {b : Int} (h1 : gVar i ρ = some (.t (tupT l), ρ)) (h2 : gVar j ρ = some (.t (.int b), ρ)) (hz : l.length < 1000) : den2 gAdd (gVar i) (dTup (dCons (gVar j) dNil)) ρ = some (.t (tupT (l ++ [b])), ρ) := by
  have e : dTup (dCons (gVar j) dNil) ρ = some (.t (.tup [.int b]), ρ) := dTup_eq (dCons_eq h2 rfl (da := dNil) (ts := []) rfl) (show 1 ≤ 16777216 from by decide)
  have := den2_eq h1 e (gAdd_t ρ (a := ii l) (b := [.int b]) (by simp only [ii_len, List.length_singleton, line]; omega))
  rw [this]
  simp [tupT, ii]
theorem ev_all_tuples (n : Nat) (hn : n < 10) : f_all_tuples [.int 2, .int (n : Nat)] = some (.own (.lst ((sts n).map tupT))) := by
  let E (i : Nat) (s a b : L) : REnv := E_all_tuples (.t (.int 2)) (.t (.int (n : Nat))) (.own (.lst ((sts i).map tupT))) s a b
  obtain ⟨ρ', hl, s, rfl⟩ := forL_range (g := gNameT 3) (db := l_all_tuples_1) (fun i ρ => ∃ s, ρ = E i s .un .un) n (by
    rintro i ρ hi ⟨s, rfl⟩
    refine ⟨E i (.t (.int (i : Nat))) .un .un, E (i + 1) (.t (.int (i : Nat))) .un .un, rfl, ?_, _, rfl⟩
    let Eh (a b : L) : REnv := E_all_tuples (.t (.int 2)) (.t (.int (n : Nat))) .un (.t (.int (i : Nat))) a b
    have c := compL2_m (src1 := iR1 (dCons (gVar 0) dNil)) (vs := [4, 5]) (vs1 := [5]) (g := gNameT 4) (g1 := gNameT 5) (dt1 := dYes) (de := den2 gAdd (gVar 4) (dTup (dCons (gVar 5) dNil))) (ρ := Eh .un .un) tupT (fun l => [tupT (l ++ [0]), tupT (l ++ [1])]) (sts i) (fun l hl => by
      obtain ⟨a, ha, rfl⟩ := List.mem_map.mp hl
      refine ⟨Eh (.t (tupT (st i a))) .un, rangeU 0 (Int.toNat 2), Eh (.t (tupT (st i a))) .un, Eh (.t (tupT (st i a))) .un, rfl, rfl, two_inner (ρb := fun x => Eh (.t (tupT (st i a))) x) (fun x => rfl) (fun x => rfl) (fun b => app_tup rfl rfl (by rw [st_len]; omega)), rfl⟩)
    have e : (sts i).flatMap (fun l => [tupT (l ++ [0]), tupT (l ++ [1])]) = (sts (i + 1)).map tupT := by rw [← sts_succ, List.map_flatMap]; rfl
    rw [e] at c
    have hz : ((sts (i + 1)).map tupT).length ≤ line := by
      have : 2 ^ (i + 1) ≤ 2 ^ 10 := Nat.pow_le_pow_right (by decide) (by omega)
      simp only [List.length_map, sts_len, line]
      omega
    exact dSet_o (i := 2) (compD2_eq (src := iSeq (gVar 2)) (ho := some 2) (ρ1 := E i (.t (.int (i : Nat))) .un .un) (xs := (sts i).map tupT) rfl c hz) (show 2 < 6 from by decide)) (E 0 .un .un .un) ⟨.un, rfl⟩
  have s3 : t_all_tuples_3 (E 0 .un .un .un) = some (.nx, E n s .un .un) := dFor_eq (iRange1_eq (n := n) rfl (by omega)) hl
  refine bodyP_ref (ρ' := E n s .un .un) rfl ?_ (i := 2) rfl
  show d_all_tuples (E_all_tuples (.t (.int 2)) (.t (.int (n : Nat))) .un .un .un .un) = _
  rw [d_all_tuples, dSeq_nx (ρ' := E 0 .un .un .un) rfl, dSeq_nx s3]
  rfl
theorem ev_size_of_table {n : Nat} {t : List Int} (hl : t.length = 2 ^ n) (hn : n < 10) : f_size_of_table [.lst (ii t)] = some (.t (.int (n : Nat))) := by
  let E (i : Nat) : REnv := E_size_of_table (.t (.lst (ii t))) (.t (.int (i : Nat)))
  have cnd : ∀ i, i ≤ n → b_size_of_table_1 (E i) = some (decide (i < n), E i) := fun i hi => by
    have p := dCallP_eq (n := 2) (f := f_power_of) (da := dCons (gC (.int 2)) (dCons (gVar 1) dNil)) (ρ := E i) (ρ1 := E i) rfl rfl (ev_power_of i (by omega)) rfl
    have q : den1 gLen (gVar 0) (E i) = some (.t (.int ((2 ^ n : Nat) : Int)), E i) := den1_eq (l1 := .t (.lst (ii t))) (ρ1 := E i) rfl (by simp only [gLen, L.lview, ii_len, hl, Option.map_some])
    have r := dBl_eq (den2_eq p q (gLt_i _ _ _))
    have e : decide (((2 ^ i : Nat) : Int) < ((2 ^ n : Nat) : Int)) = decide (i < n) := by
      by_cases h : i < n
      · rw [decide_eq_true h]
        exact decide_eq_true (Int.ofNat_lt.mpr (Nat.pow_lt_pow_right (by decide) h))
      · rw [decide_eq_false h]
        have : i = n := by omega
        subst this
        exact decide_eq_false (by omega)
    rw [e] at r
    exact r
  obtain ⟨ρ', hw, rfl⟩ := whileL_steps (c := b_size_of_table_1) (db := l_size_of_table_1) (Pz := fun ρ => ρ = E n) (fun i ρ => ρ = E i) n (fun i hi ρ hρ => by
    subst hρ
    have := cnd i (by omega)
    rw [decide_eq_true hi] at this
    exact ⟨E i, E (i + 1), this, rfl, rfl⟩) (fun ρ hρ => by
    subst hρ
    have := cnd n (Nat.le_refl _)
    rw [decide_eq_false (Nat.lt_irrefl n)] at this
    exact ⟨E n, this, rfl⟩) n 0 1000 (by omega) (by omega) (E 0) rfl
  refine bodyP_t (ρ' := E n) rfl ?_
  show d_size_of_table (E_size_of_table (.t (.lst (ii t))) .un) = _
  rw [d_size_of_table, dSeq_nx (ρ' := E 0) rfl, dSeq_nx (show t_size_of_table_3 (E 0) = some (.nx, E n) from hw)]
  rfl
/-! ### number_of, next_of, table_states -/
theorem ev_number_of {l : List Int} (hb : ∀ x ∈ l, x = 0 ∨ x = 1) : f_number_of [tupT l] = some (.t (.int ((num l : Nat) : Int))) := by
  let E (b : Nat) (x : L) : REnv := E_number_of (.t (tupT l)) (.t (.int (b : Nat))) x
  obtain ⟨ρ', hl, s, rfl⟩ := forL_inv (g := gNameT 2) (db := l_number_of_1) (t := T.int) (fun (b : Nat) ρ => ∃ s, ρ = E b s) (fun b x => 2 * b + x.toNat) l (by
    rintro x hx b _ ⟨s, rfl⟩
    refine ⟨E b (.t (.int x)), E (2 * b + x.toNat) (.t (.int x)), rfl, ?_, _, rfl⟩
    have m1 := den2_eq (g := gMul) (d1 := gC (.int 2)) (d2 := gVar 1) (ρ := E b (.t (.int x))) (ρ1 := E b (.t (.int x))) (ρ2 := E b (.t (.int x))) (l1 := .t (.int 2)) (l2 := .t (.int (b : Nat))) rfl rfl (gMul_e _ (mulOk_small (i := 2) (by decide) (by decide)))
    have m2 := den2_eq (g := gAdd) m1 (d2 := gVar 2) (l2 := .t (.int x)) (ρ2 := E b (.t (.int x))) rfl (gAdd_i _ _ _)
    have e : 2 * (b : Int) + x = ((2 * b + x.toNat : Nat) : Int) := by rcases hb x hx with rfl | rfl <;> simp
    rw [e] at m2
    exact dSet_t m2 (show 1 < 3 from by decide)) 0 (E 0 .un) ⟨.un, rfl⟩
  have s2 : t_number_of_3 (E 0 .un) = some (.nx, E (num l) s) := dFor_eq (xs := l.map T.int) (ρ1 := E 0 .un) rfl hl
  refine bodyP_t (ρ' := E (num l) s) rfl ?_
  show d_number_of (E_number_of (.t (tupT l)) .un .un) = _
  rw [d_number_of, dSeq_nx (ρ' := E 0 .un) rfl, dSeq_nx s2]
  rfl
theorem ev_next_of {n a : Nat} {t : List Int} (h : Tb (n + 1) t) (hn : n < 10) (ha : a < 2 ^ (n + 1)) : f_next_of [.lst (ii t), tupT (st (n + 1) a)] = some (.t (tupT (st (n + 1) (nx t a)))) := by
  let E : REnv := E_next_of (.t (.lst (ii t))) (.t (tupT (st (n + 1) a)))
  have e1 := dSl_eq (d := gVar 1) (dl := dSome (gC (.int 1))) (dh := dNone) (ρ := E) (ρ1 := E) (ρ2 := E) (ρ3 := E) (lo := some 1) (hi := none) rfl rfl rfl (gSl_t _)
  rw [show cutT (List.map T.int (st (n + 1) a)) (some 1) none = (List.map T.int (st (n + 1) a)).drop 1 from cut_lo _ 1] at e1
  have c := dCallP_eq (n := 1) (f := f_number_of) (da := dCons (gVar 1) dNil) (ρ := E) (ρ1 := E) rfl rfl (ev_number_of (st_bits (n + 1) a)) rfl
  rw [num_st, Nat.mod_eq_of_lt ha] at c
  have ix := den2_eq (g := gIx) (d1 := gVar 0) (ρ := E) (ρ1 := E) (l1 := .t (.lst (ii t))) rfl c (gIx_l _ (atI_ints (ns := t) (i := (a : Int)) (by omega) (by rw [h.1]; omega)))
  have e2 := dTup_eq (dCons_eq ix rfl (da := dNil) (ts := []) rfl) (show 1 ≤ 16777216 from by decide)
  have e3 := den2_eq e1 e2 (gAdd_t _ (by simp only [List.length_drop, List.length_map, st_len, List.length_singleton, line]; omega))
  refine bodyP_t (ρ' := E) rfl ?_
  show d_next_of E = _
  refine (dRet_eq e3).trans ?_
  rw [h.nx_st, Int.toNat_natCast]
  simp [tupT, List.map_drop]
def stT (n a : Nat) : T := tupT (st n a)
theorem ws_st {n a b m : Nat} {t : List Int} (h : Tb (n + 1) t) (ha : a < 2 ^ (n + 1)) (hb : b < 2 ^ (n + 1)) : st (n + 1) b ∈ (ws (nx t) a m).map (st (n + 1)) ↔ b ∈ ws (nx t) a m := by
  constructor
  · intro hm
    obtain ⟨c, hc, e⟩ := List.mem_map.mp hm
    obtain ⟨j, hj, rfl⟩ := mem_ws.mp hc
    rwa [← st_inj (itF_lt (fun a _ => h.nx_lt a) j a ha) hb e]
  · exact fun hm => List.mem_map.mpr ⟨b, hm, rfl⟩
theorem pow_small {n : Nat} (hn : n < 6) : 2 ^ (n + 1) ≤ 64 := Nat.pow_le_pow_right (n := 2) (by decide) (show n + 1 ≤ 6 by omega)
theorem ev_table_states {n a m : Nat} {t : List Int} (h : Tb (n + 1) t) (hn : n < 6) (ha : a < 2 ^ (n + 1)) (w : Wk (nx t) (2 ^ (n + 1)) a m) :
    f_table_states [.lst (ii t), stT (n + 1) a] = some (.own (.lst ((ws (nx t) a m).map (stT (n + 1))))) := by
  let E (i : Nat) : REnv := E_table_states (.t (.lst (ii t))) (.t (stT (n + 1) a)) (.own (.lst ((ws (nx t) a i).map (stT (n + 1))))) (.t (stT (n + 1) (itF (nx t) i a)))
  have hp := pow_small hn
  have mle := w.le
  have lt : ∀ i, itF (nx t) i a < 2 ^ (n + 1) := fun i => itF_lt (fun a _ => h.nx_lt a) i a ha
  have cnd : ∀ i, b_table_states_1 (E i) = some (!decide (itF (nx t) i a ∈ ws (nx t) a i), E i) := fun i => by
    have e0 : (ws (nx t) a i).map (stT (n + 1)) = ((ws (nx t) a i).map (st (n + 1))).map tupT := by rw [List.map_map]; rfl
    have e1 : gNotIn (E i) (.t (stT (n + 1) (itF (nx t) i a))) (.ref 2) = some (!decide (itF (nx t) i a ∈ ws (nx t) a i)) := by
      rw [gNot_e (gIn_tr (ρ := E i) (k := 2) (x := stT (n + 1) (itF (nx t) i a)) (ys := (ws (nx t) a i).map (stT (n + 1))) rfl (shp_tup _) (by rw [e0]; exact shp_tups _))]
      rw [e0, show stT (n + 1) (itF (nx t) i a) = tupT (st (n + 1) (itF (nx t) i a)) from rfl, inl_tup, decide_eq_decide.mpr (ws_st h ha (lt i))]
    exact dBl_eq (den2_eq (g := gB gNotIn) (d1 := gVar 3) (d2 := gVar 2) (ρ := E i) (ρ1 := E i) (ρ2 := E i) rfl rfl (gB_e e1))
  obtain ⟨ρ', hw, rfl⟩ := whileL_steps (c := b_table_states_1) (db := l_table_states_1) (Pz := fun ρ => ρ = E m) (fun i ρ => ρ = E i) m (fun i hi ρ hρ => by
    subst hρ
    have c1 := cnd i
    rw [decide_eq_false (w.new i hi)] at c1
    refine ⟨E i, E (i + 1), c1, ?_, rfl⟩
    have s1 : t_table_states_3 (E i) = some (.nx, E_table_states (.t (.lst (ii t))) (.t (stT (n + 1) a)) (.own (.lst ((ws (nx t) a (i + 1)).map (stT (n + 1))))) (.t (stT (n + 1) (itF (nx t) i a)))) := by
      have := meth_app (i := 2) (da := dCons (dFrz 3) dNil) (ρ := E i) (ρ1 := E i) (xs := (ws (nx t) a i).map (stT (n + 1))) (x := stT (n + 1) (itF (nx t) i a)) rfl rfl rfl (by simp only [List.length_map, ws_len, line]; omega)
      rw [show t_table_states_3 = dDrop (dMeth 2 fAppend (dCons (dFrz 3) dNil)) from rfl, this, ws_succ, List.map_append]
      rfl
    rw [l_table_states_1, dSeq_nx s1]
    let F : REnv := E_table_states (.t (.lst (ii t))) (.t (stT (n + 1) a)) (.own (.lst ((ws (nx t) a (i + 1)).map (stT (n + 1))))) (.t (stT (n + 1) (itF (nx t) i a)))
    have c := dCallP_eq (n := 2) (f := f_next_of) (da := dCons (gVar 0) (dCons (dFrz 3) dNil)) (ρ := F) (ρ1 := F) rfl rfl (ev_next_of h (by omega) (lt i)) rfl
    rw [← itF_succ (nx t) i a] at c
    exact dSet_t (i := 3) c (show 3 < 4 from by decide)) (fun ρ hρ => by
    subst hρ
    have c1 := cnd m
    rw [decide_eq_true w.old] at c1
    exact ⟨E m, c1, rfl⟩) m 0 1000 (by omega) (by omega) (E 0) rfl
  refine bodyP_ref (ρ' := E m) rfl ?_ (i := 2) rfl
  show d_table_states (E_table_states (.t (.lst (ii t))) (.t (stT (n + 1) a)) .un .un) = _
  rw [d_table_states, dSeq_nx (ρ' := E_table_states (.t (.lst (ii t))) (.t (stT (n + 1) a)) (.own (.lst [])) .un) rfl, dSeq_nx (ρ' := E 0) rfl, dSeq_nx (show t_table_states_5 (E 0) = some (.nx, E m) from hw)]
  rfl
end LK
namespace LK
open PySem LW
open L2 (atI ixN)

theorem gNe_i (ρ : REnv) (i j : Int) : gB gNe ρ (.t (.int i)) (.t (.int j)) = some (.t (.bl (!decide (i = j)))) := by simp only [gB, gNe, gEq, L.view, eqOk_int, if_true, eqv_int, Option.map_some]
theorem asBls_map : ∀ bs : List Bool, asBls (bs.map T.bl) = some bs
  | [] => rfl
  | b :: bs => by simp only [List.map_cons, asBls, asBls_map bs, Option.map_some]
theorem gAll_n (ρ : REnv) (bs : List Bool) : gAll ρ (.own (.lst (bs.map T.bl))) = some (.t (.bl (bs.all id))) := by simp only [gAll, L.lview, asBls_map, Option.bind_some, Option.map_some]
theorem pow_half (n : Nat) : ((2 ^ (n + 1) : Nat) : Int) / 2 = ((2 ^ n : Nat) : Int) := by rw [Nat.pow_succ, Int.natCast_mul]; exact Int.mul_ediv_cancel _ (by decide)
theorem half_den {ρ : REnv} {i n : Nat} {x : L} {t : List Int} (hi : gVar i ρ = some (x, ρ)) (hx : gLen ρ x = some (.t (.int (t.length : Nat)))) (hl : t.length = 2 ^ (n + 1)) : den2 gDiv (den1 gLen (gVar i)) (gC (.int 2)) ρ = some (.t (.int ((2 ^ n : Nat) : Int)), ρ) := by
  have := den2_eq (g := gDiv) (den1_eq hi hx) (d2 := gC (.int 2)) (l2 := .t (.int 2)) (ρ2 := ρ) rfl (gDiv_e _ (by decide) (by decide))
  rwa [hl, pow_half] at this
theorem gLen_l (ρ : REnv) (t : List Int) : gLen ρ (.t (.lst (ii t))) = some (.t (.int (t.length : Nat))) := by simp only [gLen, L.lview, ii_len, Option.map_some]
theorem gLen_tt (ρ : REnv) (t : List Int) : gLen ρ (.t (tupT t)) = some (.t (.int (t.length : Nat))) := by simp only [gLen, tupT, List.length_map]
theorem gLen_n (ρ : REnv) (t : List T) : gLen ρ (.own (.lst t)) = some (.t (.int (t.length : Nat))) := by simp only [gLen, L.lview, Option.map_some]
theorem gLen_r (ρ : REnv) {k : Nat} {t : List T} (h : ρ[k]? = some (.own (.lst t))) : gLen ρ (.ref k) = some (.t (.int (t.length : Nat))) := by simp only [gLen, L.lview, h, Option.map_some]
theorem ix_nat {t : List Int} {a : Nat} (h : a < t.length) : atI (ii t) ((a : Nat) : Int) = some (.int (t.getD a 0)) := by
  have := atI_ints (ns := t) (i := (a : Int)) (by omega) (by omega)
  rwa [Int.toNat_natCast] at this
/-- unlike bits, as the program asks it -/
def gdB (n : Nat) (t : List Int) : Bool := (List.range (2 ^ n)).all fun a => !decide (t.getD a 0 = t.getD (a + 2 ^ n) 0)
theorem gdB_iff {n : Nat} {t : List Int} (h : Tb (n + 1) t) : gdB n t = true ↔ Gd n t := by
  unfold gdB
  rw [List.all_eq_true]
  constructor
  · intro hh
    exact ⟨h, fun a ha => by have := hh a (by simpa using ha); simpa using this⟩
  · rintro ⟨_, hh⟩ a ha
    have := hh a (by simpa using ha)
    simpa using this
theorem ev_is_round_table {n : Nat} {t : List Int} (hl : t.length = 2 ^ (n + 1)) (hn : n < 6) : f_is_round_table [.lst (ii t)] = some (.t (.bl (gdB n t))) := by
  have hp := pow_small hn
  rw [Nat.pow_succ] at hp
  let E (x : L) : REnv := E_is_round_table (.t (.lst (ii t))) (.t (.int ((2 ^ n : Nat) : Int))) x
  have s1 : t_is_round_table_1 (E_is_round_table (.t (.lst (ii t))) .un .un) = some (.nx, E .un) := dSet_t (i := 1) (half_den (t := t) (i := 0) rfl (gLen_l _ t) hl) (show 1 < 3 from by decide)
  have c : c_is_round_table_1 (E .un) = some (.own (.lst ((List.range (2 ^ n)).map fun a => T.bl (!decide (t.getD a 0 = t.getD (a + 2 ^ n) 0)))), E .un) := by
    refine compD_eq (xs := (List.range (2 ^ n)).map fun i => T.int (i : Nat)) (ho := none) (ρ1 := E .un) (iRange1_eq (n := 2 ^ n) rfl (by omega)) (compL_m (fun i : Nat => T.int (i : Nat)) (fun a => T.bl (!decide (t.getD a 0 = t.getD (a + 2 ^ n) 0))) _ fun a ha => ?_) (by simp only [List.length_map, List.length_range, line]; omega)
    have ha : a < 2 ^ n := by simpa using ha
    let F : REnv := E (.t (.int (a : Nat)))
    have i1 := den2_eq (g := gIx) (d1 := gVar 0) (d2 := gVar 2) (ρ := F) (ρ1 := F) (ρ2 := F) (l1 := .t (.lst (ii t))) rfl rfl (gIx_l _ (ix_nat (t := t) (a := a) (by rw [hl, Nat.pow_succ]; omega)))
    have i2 := den2_eq (g := gIx) (d1 := gVar 0) (ρ := F) (ρ1 := F) (l1 := .t (.lst (ii t))) rfl (den2_eq (g := gAdd) (d1 := gVar 2) (d2 := gVar 1) (ρ := F) (ρ1 := F) (ρ2 := F) (l1 := .t (.int (a : Nat))) (l2 := .t (.int ((2 ^ n : Nat) : Int))) rfl rfl (gAdd_i _ _ _)) (gIx_l _ (ix_nat (t := t) (a := a + 2 ^ n) (by rw [hl, Nat.pow_succ]; omega)))
    exact ⟨F, rfl, _, F, den2_eq i1 i2 (gNe_i _ _ _), rfl, rfl⟩
  have e : (List.range (2 ^ n)).map (fun a => T.bl (!decide (t.getD a 0 = t.getD (a + 2 ^ n) 0))) = ((List.range (2 ^ n)).map fun a => !decide (t.getD a 0 = t.getD (a + 2 ^ n) 0)).map T.bl := by rw [List.map_map]; rfl
  rw [e] at c
  have r := den1_eq c (gAll_n _ _)
  rw [List.all_map] at r
  refine bodyP_t (ρ' := E .un) rfl ?_
  show d_is_round_table (E_is_round_table (.t (.lst (ii t))) .un .un) = _
  rw [d_is_round_table, dSeq_nx s1]
  exact dRet_eq r
theorem ev_are_apart {n a b m : Nat} {t : List Int} (h : Tb (n + 1) t) (hn : n < 6) (ha : a < 2 ^ (n + 1)) (hb : b < 2 ^ (n + 1)) (w : Wk (nx t) (2 ^ (n + 1)) a m) :
    f_are_apart [.lst (ii t), stT (n + 1) a, stT (n + 1) b] = some (.t (.bl (!decide (b ∈ ws (nx t) a m)))) := by
  let E : REnv := E_are_apart (.t (.lst (ii t))) (.t (stT (n + 1) a)) (.t (stT (n + 1) b))
  have c := dCallP_eq (n := 2) (f := f_table_states) (da := dCons (gVar 0) (dCons (gVar 1) dNil)) (ρ := E) (ρ1 := E) rfl rfl (ev_table_states h hn ha w) rfl
  have e0 : (ws (nx t) a m).map (stT (n + 1)) = ((ws (nx t) a m).map (st (n + 1))).map tupT := by rw [List.map_map]; rfl
  have e1 : gNotIn E (.t (stT (n + 1) b)) (.own (.lst ((ws (nx t) a m).map (stT (n + 1))))) = some (!decide (b ∈ ws (nx t) a m)) := by
    rw [gNot_e (gIn_to (ρ := E) (x := stT (n + 1) b) (ys := (ws (nx t) a m).map (stT (n + 1))) (shp_tup _) (by rw [e0]; exact shp_tups _))]
    rw [e0, show stT (n + 1) b = tupT (st (n + 1) b) from rfl, inl_tup, decide_eq_decide.mpr (ws_st h ha hb)]
  refine bodyP_t (ρ' := E) rfl ?_
  exact dRet_eq (den2_eq (g := gB gNotIn) (d1 := gVar 2) (ρ := E) (ρ1 := E) (l1 := .t (stT (n + 1) b)) rfl c (gB_e e1))
theorem gSubT_e {j k : Nat} {di : Den} {ρ : REnv} {xs : List T} {y : T} (ho : ρ[j]? = some (.own (.lst xs))) (hd : di ρ = some (.t (.int (k : Nat)), ρ)) (hk : k < xs.length) : gSubT j di y ρ = some (ρ.set j (.own (.lst (xs.set k y)))) := by
  have h1 : isOwnL ρ j = true := by simp only [isOwnL, ho]
  have h2 : ixN xs.length ((k : Nat) : Int) = some k := by
    unfold ixN
    rw [if_pos (show (0 : Int) ≤ (k : Nat) by omega), if_pos (show ((k : Nat) : Int) < (xs.length : Nat) by omega), Int.toNat_natCast]
  simp only [gSubT, h1, hd, if_true, Option.bind_some, L.asInt, ho, h2, Option.map_some]
theorem dAsg_eq {d : Den} {g : DenG} {ρ ρ1 ρ2 : REnv} {l : L} {x : T} (h : d ρ = some (l, ρ1)) (ht : l.tree = some x) (hg : g x ρ1 = some ρ2) : dAsg d g ρ = some (.nx, ρ2) := by simp only [dAsg, h, ht, hg, Option.bind_some, Option.map_some]
theorem sts_ix {n a : Nat} (h : a < 2 ^ n) : atI ((sts n).map tupT) ((a : Nat) : Int) = some (stT n a) := L2.atI_nat (by rw [List.getElem?_map, sts_get h]; rfl)
theorem iiset (t : List Int) (a : Nat) (x : Int) : (ii t).set a (.int x) = ii (t.set a x) := by simp [ii, List.map_set]
theorem ev_joined_table {n : Nat} {t : List Int} (h : Gd n t) (hn : n < 6) : f_joined_table [.lst (ii t)] = some (.own (.lst (ii (joinK n t (2 ^ n))))) := by
  have hp := pow_small hn
  have hl := h.1.1
  let SL : List T := (sts (n + 1)).map tupT
  let E (u : List Int) (x : L) : REnv := E_joined_table (.t (.lst (ii t))) (.own (.lst (ii u))) (.t (.int ((2 ^ n : Nat) : Int))) (.own (.lst SL)) x
  have s2 : t_joined_table_2 (E_joined_table (.t (.lst (ii t))) (.own (.lst (ii t))) .un .un .un) = some (.nx, E_joined_table (.t (.lst (ii t))) (.own (.lst (ii t))) (.t (.int ((2 ^ n : Nat) : Int))) .un .un) := dSet_t (i := 2) (half_den (t := t) (i := 0) rfl (gLen_l _ t) hl) (show 2 < 5 from by decide)
  have s3 : t_joined_table_3 (E_joined_table (.t (.lst (ii t))) (.own (.lst (ii t))) (.t (.int ((2 ^ n : Nat) : Int))) .un .un) = some (.nx, E t .un) := by
    let F : REnv := E_joined_table (.t (.lst (ii t))) (.own (.lst (ii t))) (.t (.int ((2 ^ n : Nat) : Int))) .un .un
    have c1 := dCallP_eq (n := 1) (f := f_size_of_table) (da := dCons (gVar 0) dNil) (ρ := F) (ρ1 := F) rfl rfl (ev_size_of_table hl (by omega)) rfl
    have c2 := dCallP_eq (n := 2) (f := f_all_tuples) (dCons_eq (d := gC (.int 2)) (ρ := F) (ρ1 := F) (l := .t (.int 2)) rfl rfl (dCons_eq c1 rfl (da := dNil) (ts := []) rfl)) rfl (ev_all_tuples (n + 1) (by omega)) rfl
    exact dSet_o (i := 3) c2 (show 3 < 5 from by decide)
  obtain ⟨ρ', hf, s, rfl⟩ := forL_range (g := gNameT 4) (db := l_joined_table_1) (fun i ρ => ∃ s, ρ = E (joinK n t i) s) (2 ^ n) (by
    rintro i ρ hi ⟨s, rfl⟩
    have g := (joined_ok h i (by omega)).1
    rw [joinK_succ]
    generalize joinK n t i = u at g
    have hu := g.1.1
    have hN : i < 2 ^ (n + 1) ∧ i + 2 ^ n < 2 ^ (n + 1) := by rw [Nat.pow_succ]; omega
    obtain ⟨m, w⟩ := wk_ex g.pm.lt hN.1
    refine ⟨E u (.t (.int (i : Nat))), E (joinStep n u i) (.t (.int (i : Nat))), rfl, ?_, _, rfl⟩
    let G : REnv := E u (.t (.int (i : Nat)))
    let F : REnv := E_joined_table (.t (.lst (ii t))) (.t (.lst (ii u))) (.t (.int ((2 ^ n : Nat) : Int))) (.t (.lst SL)) (.t (.int (i : Nat)))
    have a1 := den2_eq (g := gIx) (d1 := gVar 3) (d2 := gVar 4) (ρ := F) (ρ1 := F) (ρ2 := F) (l1 := .t (.lst SL)) (l2 := .t (.int (i : Nat))) rfl rfl (gIx_l _ (sts_ix hN.1))
    have a2 := den2_eq (g := gIx) (d1 := gVar 3) (ρ := F) (ρ1 := F) (l1 := .t (.lst SL)) rfl (den2_eq (g := gAdd) (d1 := gVar 4) (d2 := gVar 2) (ρ := F) (ρ1 := F) (ρ2 := F) (l1 := .t (.int (i : Nat))) (l2 := .t (.int ((2 ^ n : Nat) : Int))) rfl rfl (gAdd_i _ _ _)) (gIx_l _ (sts_ix hN.2))
    have c := dCallP_eq (n := 3) (f := f_are_apart) (dCons_eq (d := gVar 1) (ρ := F) (ρ1 := F) (l := .t (.lst (ii u))) rfl rfl (dCons_eq a1 rfl (dCons_eq a2 rfl (da := dNil) (ts := []) rfl))) rfl (ev_are_apart g.1 hn hN.1 hN.2 w) rfl
    have b := dTru_b (dBor_eq (ρ := G) (d := dCallP 3 f_are_apart (dCons (gVar 1) (dCons (den2 gIx (gVar 3) (gVar 4)) (dCons (den2 gIx (gVar 3) (den2 gAdd (gVar 4) (gVar 2))) dNil)))) c (noL_bl _))
    have eb : (!decide (i + 2 ^ n ∈ ws (nx u) i m)) = apart u n i := by
      unfold apart
      rw [wk_eq w]
      by_cases q : i + 2 ^ n ∈ ws (nx u) i m <;> simp [q]
    rw [eb] at b
    refine (dIfS_eq (c := b_joined_table_1) (d := t_joined_table_4) (d' := dNx) b).trans ?_
    unfold joinStep
    by_cases q : apart u n i = true
    · rw [if_pos q, if_pos q]
      have x1 := den2_eq (g := gIx) (d1 := gVar 1) (ρ := G) (ρ1 := G) (l1 := .ref 1) rfl (den2_eq (g := gAdd) (d1 := gVar 4) (d2 := gVar 2) (ρ := G) (ρ1 := G) (ρ2 := G) (l1 := .t (.int (i : Nat))) (l2 := .t (.int ((2 ^ n : Nat) : Int))) rfl rfl (gAdd_i _ _ _)) (gIx_o _ (xs := ii u) rfl (ix_nat (t := u) (a := i + 2 ^ n) (by omega)))
      have x2 := den2_eq (g := gIx) (d1 := gVar 1) (d2 := gVar 4) (ρ := G) (ρ1 := G) (ρ2 := G) (l1 := .ref 1) (l2 := .t (.int (i : Nat))) rfl rfl (gIx_o _ (xs := ii u) rfl (ix_nat (t := u) (a := i) (by omega)))
      have x3 := dTup_eq (dCons_eq x1 rfl (dCons_eq x2 rfl (da := dNil) (ts := []) rfl)) (show 2 ≤ 16777216 from by decide)
      have y1 := gSubT_e (j := 1) (k := i) (di := gVar 4) (ρ := G) (xs := ii u) (y := .int (u.getD (i + 2 ^ n) 0)) rfl rfl (by rw [ii_len]; omega)
      have y2 := gSubT_e (j := 1) (k := i + 2 ^ n) (di := den2 gAdd (gVar 4) (gVar 2)) (ρ := E (u.set i (u.getD (i + 2 ^ n) 0)) (.t (.int (i : Nat)))) (xs := ii (u.set i (u.getD (i + 2 ^ n) 0))) (y := .int (u.getD i 0)) rfl (den2_eq (g := gAdd) (d1 := gVar 4) (d2 := gVar 2) (ρ1 := E (u.set i (u.getD (i + 2 ^ n) 0)) (.t (.int (i : Nat)))) (ρ2 := E (u.set i (u.getD (i + 2 ^ n) 0)) (.t (.int (i : Nat)))) (l1 := .t (.int (i : Nat))) (l2 := .t (.int ((2 ^ n : Nat) : Int))) rfl rfl (gAdd_i _ _ _)) (by rw [ii_len, List.length_set]; omega)
      rw [iiset] at y1 y2
      refine dAsg_eq x3 rfl ?_
      show (gSubT 1 (gVar 4) _ G).bind _ = _
      rw [y1]
      show (gSubT 1 (den2 gAdd (gVar 4) (gVar 2)) _ (E (u.set i (u.getD (i + 2 ^ n) 0)) (.t (.int (i : Nat))))).bind _ = _
      rw [y2]
      rfl
    · rw [if_neg q, if_neg q]
      rfl) (E (joinK n t 0) .un) ⟨.un, rfl⟩
  have s4 : t_joined_table_6 (E t .un) = some (.nx, E (joinK n t (2 ^ n)) s) := dFor_eq (iRange1_eq (n := 2 ^ n) rfl (by rw [Nat.pow_succ] at hp; omega)) hf
  refine bodyP_ref (ρ' := E (joinK n t (2 ^ n)) s) rfl ?_ (i := 1) rfl
  show d_joined_table (E_joined_table (.t (.lst (ii t))) .un .un .un .un) = _
  rw [d_joined_table, dSeq_nx (ρ' := E_joined_table (.t (.lst (ii t))) (.own (.lst (ii t))) .un .un .un) rfl, dSeq_nx s2, dSeq_nx s3, dSeq_nx s4]
  rfl
/-- the oldest bit -/
def rb (n a : Nat) : Int := ((a / 2 ^ n % 2 : Nat) : Int)
theorem st_zero : ∀ n, st n 0 = List.replicate n 0
  | 0 => rfl
  | n + 1 => by rw [st, show 0 / 2 = 0 from rfl, st_zero n, List.replicate_succ']; rfl
theorem st_ix0 (n a : Nat) : atI (ii (st (n + 1) a)) 0 = some (.int (rb n a)) := by
  have := ix_nat (t := st (n + 1) a) (a := 0) (by rw [st_len]; omega)
  rwa [show (st (n + 1) a).getD 0 0 = rb n a by rw [st_head]; rfl] at this
theorem ev_row_of_table {n m : Nat} {t : List Int} (h : Tb (n + 1) t) (hn : n < 6) (w : Wk (nx t) (2 ^ (n + 1)) 0 m) : f_row_of_table [.lst (ii t)] = some (.own (.lst (ii ((ws (nx t) 0 m).map (rb n))))) := by
  have hp := pow_small hn
  have mle := w.le
  let E (x : L) : REnv := E_row_of_table (.t (.lst (ii t))) x
  have c1 := dCallP_eq (n := 1) (f := f_size_of_table) (da := dCons (gVar 0) dNil) (ρ := E .un) (ρ1 := E .un) rfl rfl (ev_size_of_table h.1 (by omega)) rfl
  have m1 := den2_eq (g := gMul) (d1 := dLst (dCons (gC (.int 0)) dNil)) (ρ := E .un) (ρ1 := E .un) (l1 := .own (.lst [.int 0])) rfl c1 (gMul_one _ _ (by omega) (by omega))
  have m2 : den1 gTuple (den2 gMul (dLst (dCons (gC (.int 0)) dNil)) (dCallP 1 f_size_of_table (dCons (gVar 0) dNil))) (E .un) = some (.t (stT (n + 1) 0), E .un) := by
    refine den1_eq m1 ?_
    rw [Int.toNat_natCast, rep_ii, ← st_zero]
    rfl
  have c2 := dCallP_eq (n := 2) (f := f_table_states) (dCons_eq (d := gVar 0) (ρ := E .un) (ρ1 := E .un) (l := .t (.lst (ii t))) rfl rfl (dCons_eq m2 rfl (da := dNil) (ts := []) rfl)) rfl (ev_table_states h hn (Nat.two_pow_pos _) w) rfl
  have src : iSeq (dCallP 2 f_table_states (dCons (gVar 0) (dCons (den1 gTuple (den2 gMul (dLst (dCons (gC (.int 0)) dNil)) (dCallP 1 f_size_of_table (dCons (gVar 0) dNil)))) dNil))) (E .un) = some ((ws (nx t) 0 m).map (stT (n + 1)), none, E .un) := by
    rw [iSeq, c2]
    rfl
  have c : c_row_of_table_1 (E .un) = some (.own (.lst ((ws (nx t) 0 m).map fun a => T.int (rb n a))), E .un) := by
    refine compD_eq (ho := none) (ρ1 := E .un) src (compL_m (stT (n + 1)) (fun a => T.int (rb n a)) _ fun a ha => ?_) (by simp only [List.length_map, ws_len, line]; omega)
    exact ⟨E (.t (stT (n + 1) a)), rfl, _, E (.t (stT (n + 1) a)), den2_eq (g := gIx) (d1 := gVar 1) (d2 := gC (.int 0)) (ρ1 := E (.t (stT (n + 1) a))) (ρ2 := E (.t (stT (n + 1) a))) (l1 := .t (stT (n + 1) a)) (l2 := .t (.int 0)) rfl rfl (gIx_t _ (st_ix0 n a)), rfl, rfl⟩
  rw [show (ws (nx t) 0 m).map (fun a => T.int (rb n a)) = ii ((ws (nx t) 0 m).map (rb n)) by rw [ii, List.map_map]; rfl] at c
  exact bodyP_own (ρ' := E .un) rfl (dRet_eq c)
theorem ev_count (s : Nat) (h1 : 1 ≤ s) (h2 : s ≤ 6) : f_count_greatest_rounds [.int (s : Nat)] = some (.t (.int ((2 ^ (2 ^ (s - 1) - s) : Nat) : Int))) := by
  let E : REnv := E_count_greatest_rounds (.t (.int (s : Nat)))
  have e1 : den2 gSub (gVar 0) (gC (.int 1)) E = some (.t (.int ((s - 1 : Nat) : Int)), E) := by
    rw [show ((s - 1 : Nat) : Int) = (s : Int) - 1 by omega]
    rfl
  have p1 := dCallP_eq (n := 2) (f := f_power_of) (dCons_eq (d := gC (.int 2)) (ρ := E) (ρ1 := E) (l := .t (.int 2)) rfl rfl (dCons_eq e1 rfl (da := dNil) (ts := []) rfl)) rfl (ev_power_of (s - 1) (by omega)) rfl
  have le : s ≤ 2 ^ (s - 1) ∧ 2 ^ (s - 1) ≤ 32 := by
    have : s = 1 ∨ s = 2 ∨ s = 3 ∨ s = 4 ∨ s = 5 ∨ s = 6 := by omega
    rcases this with rfl | rfl | rfl | rfl | rfl | rfl <;> decide
  have e2 : den2 gSub (dCallP 2 f_power_of (dCons (gC (.int 2)) (dCons (den2 gSub (gVar 0) (gC (.int 1))) dNil))) (gVar 0) E = some (.t (.int ((2 ^ (s - 1) - s : Nat) : Int)), E) := by
    have := den2_eq (g := gSub) p1 (d2 := gVar 0) (l2 := .t (.int (s : Nat))) (ρ2 := E) rfl rfl
    rw [show ((2 ^ (s - 1) - s : Nat) : Int) = ((2 ^ (s - 1) : Nat) : Int) - (s : Int) by omega]
    exact this
  have p2 := dCallP_eq (n := 2) (f := f_power_of) (dCons_eq (d := gC (.int 2)) (ρ := E) (ρ1 := E) (l := .t (.int 2)) rfl rfl (dCons_eq e2 rfl (da := dNil) (ts := []) rfl)) rfl (ev_power_of (2 ^ (s - 1) - s) (by omega)) rfl
  exact bodyP_t (ρ' := E) rfl (dRet_eq p2)
end LK
namespace LK
open PySem LW
open L2 (atI ixN)

abbrev nI (l : List Nat) : List Int := l.map fun (j : Nat) => (j : Int)
theorem mem_nI {b : Nat} {l : List Nat} : ((b : Nat) : Int) ∈ nI l ↔ b ∈ l := by
  constructor
  · intro h
    obtain ⟨c, hc, e⟩ := List.mem_map.mp h
    have : c = b := by omega
    exact this ▸ hc
  · exact fun h => List.mem_map.mpr ⟨b, h, rfl⟩
theorem dFor_h {as : List Nat} {src : DenI} {g : DenG} {db : DenS} {ρ ρ1 ρ2 : REnv} {xs : List T} {fl : Fl} {j : Nat} (hs : src ρ = some (xs, some j, ρ1)) (hj : as.contains j = false) (hl : forL g db xs (ρ1.set j .un) = some (fl, ρ2)) : dFor as src g db ρ = some (fl, restE ρ1 ρ2 [j]) := by
  simp [dFor, hs, hideO, hl]
  simpa using hj
/-! ### the law's own walk -/
theorem ev_law_walk {n a m : Nat} {t : List Int} {x : T} (hx : x = .lst (ii t) ∨ x = tupT t) (h : Tb (n + 1) t) (hn : n < 6) (ha : a < 2 ^ (n + 1)) (w : Wk (nx t) (2 ^ (n + 1)) a m) :
    f__law_walk [x, .int (a : Nat)] = some (.own (.lst (ii (nI (ws (nx t) a m))))) := by
  have hp := pow_small hn
  have mle := w.le
  have hl := h.1
  have glen : ∀ ρ, gLen ρ (.t x) = some (.t (.int (t.length : Nat))) := fun ρ => by rcases hx with rfl | rfl; exact gLen_l ρ t; exact gLen_tt ρ t
  have gix : ∀ (ρ : REnv) (b : Nat), b < 2 ^ (n + 1) → gIx ρ (.t x) (.t (.int (b : Nat))) = some (.t (.int (t.getD b 0))) := fun ρ b hb => by
    have e := ix_nat (t := t) (a := b) (by omega)
    rcases hx with rfl | rfl
    · exact gIx_l _ e
    · exact gIx_t _ e
  have lt : ∀ i, itF (nx t) i a < 2 ^ (n + 1) := fun i => itF_lt (fun a _ => h.nx_lt a) i a ha
  let E (i : Nat) (s : L) : REnv := E__law_walk (.t x) (.t (.int ((itF (nx t) i a : Nat) : Int))) (.own (.lst (ii (nI (ws (nx t) a i))))) (.t (.int ((2 ^ n : Nat) : Int))) s
  have cnd : ∀ i s, b__law_walk_1 (E i s) = some (decide (itF (nx t) i a ∈ ws (nx t) a i), E i s) := fun i s => by
    have e1 : gIn (E i s) (.t (.int ((itF (nx t) i a : Nat) : Int))) (.ref 2) = some (decide (itF (nx t) i a ∈ ws (nx t) a i)) := by
      rw [gIn_tr (ρ := E i s) (k := 2) (x := .int ((itF (nx t) i a : Nat) : Int)) (ys := ii (nI (ws (nx t) a i))) rfl rfl (shp_lst _), inl_int, decide_eq_decide.mpr mem_nI]
    exact dBl_eq (den2_eq (g := gB gIn) (d1 := gVar 1) (d2 := gVar 2) (ρ := E i s) (ρ1 := E i s) (ρ2 := E i s) (l1 := .t (.int ((itF (nx t) i a : Nat) : Int))) (l2 := .ref 2) rfl rfl (gB_e e1))
  have go : ∀ i s, i < m → l__law_walk_1 (E i s) = some (.nx, E (i + 1) s) := fun i s hi => by
    have c1 := cnd i s
    rw [decide_eq_false (w.new i hi)] at c1
    have s1 : t__law_walk_3 (E i s) = some (.nx, E i s) := (dIfS_f c1).trans rfl
    let F : REnv := E__law_walk (.t x) (.t (.int ((itF (nx t) i a : Nat) : Int))) (.own (.lst (ii (nI (ws (nx t) a (i + 1)))))) (.t (.int ((2 ^ n : Nat) : Int))) s
    have s2 : t__law_walk_4 (E i s) = some (.nx, F) := by
      have := meth_app (i := 2) (da := dCons (dFrz 1) dNil) (ρ := E i s) (ρ1 := E i s) (xs := ii (nI (ws (nx t) a i))) (x := .int ((itF (nx t) i a : Nat) : Int)) rfl rfl rfl (by simp only [List.length_map, ws_len, line]; omega)
      rw [show t__law_walk_4 = dDrop (dMeth 2 fAppend (dCons (dFrz 1) dNil)) from rfl, this]
      show _ = some (Fl.nx, E__law_walk _ _ (.own (.lst (ii (nI (ws (nx t) a (i + 1)))))) _ _)
      rw [ws_succ]
      simp only [nI, ii, List.map_append, List.map_cons, List.map_nil]
      rfl
    have m1 := den2_eq (g := gMod) (den1_eq (g := gInt) (d := gVar 1) (ρ := F) (ρ1 := F) (l1 := .t (.int ((itF (nx t) i a : Nat) : Int))) rfl (gInt_i _ _)) (d2 := gVar 3) (l2 := .t (.int ((2 ^ n : Nat) : Int))) (ρ2 := F) rfl (gMod_e _ (Int.ofNat_lt.mpr (Nat.two_pow_pos n)))
    have m2 := den2_eq (g := gMul) m1 (d2 := gC (.int 2)) (l2 := .t (.int 2)) (ρ2 := F) rfl (gMul_e _ (mulOk_smallr (j := 2) (by decide) (by decide)))
    have m3 := den2_eq (g := gAdd) m2 (den2_eq (g := gIx) (d1 := gVar 0) (d2 := gVar 1) (ρ := F) (ρ1 := F) (ρ2 := F) (l1 := .t x) (l2 := .t (.int ((itF (nx t) i a : Nat) : Int))) rfl rfl (gix _ _ (lt i))) (gAdd_i _ _ _)
    have e := h.nx_int (itF (nx t) i a)
    rw [h.half, ← itF_succ (nx t) i a] at e
    rw [← e] at m3
    rw [l__law_walk_1, dSeq_nx s1, dSeq_nx s2]
    exact dSet_t (i := 1) m3 (show 1 < 5 from by decide)
  have fin : ∃ s, t__law_walk_6 (E 0 .un) = some (.nx, E m s) := by
    have rng : iRange1 (dCons (den1 gLen (gVar 0)) dNil) (E 0 .un) = some ((List.range (2 ^ (n + 1))).map fun i => T.int (i : Nat), none, E 0 .un) := by
      rw [← hl]
      exact iRange1_eq (n := t.length) (den1_eq (l1 := .t x) (ρ1 := E 0 .un) rfl (glen _)) (by omega)
    by_cases q : m = 2 ^ (n + 1)
    · obtain ⟨ρ', hf, s, rfl⟩ := forL_range (g := gNameT 4) (db := l__law_walk_1) (fun i ρ => ∃ s, ρ = E i s) (2 ^ (n + 1)) (by
        rintro i ρ hi ⟨s, rfl⟩
        exact ⟨E i (.t (.int (i : Nat))), _, rfl, go i _ (by omega), _, rfl⟩) (E 0 .un) ⟨.un, rfl⟩
      rw [← q] at hf
      exact ⟨s, by rw [q] at hf ⊢; exact dFor_eq rng hf⟩
    · obtain ⟨ρ', hf, s, rfl⟩ := forL_brk (g := gNameT 4) (db := l__law_walk_1) (t := fun i : Nat => T.int (i : Nat)) (fun j ρ => ∃ s, ρ = E (min j m) s) (m + 1) (by
        rintro j b ρ hj ⟨s, rfl⟩
        by_cases q2 : j = m
        · subst q2
          refine ⟨E (min j j) (.t (.int (b : Nat))), E (min (j + 1) j) (.t (.int (b : Nat))), rfl, ?_, _, rfl⟩
          rw [Nat.min_self, if_pos rfl, Nat.min_eq_right (Nat.le_succ _)]
          have c1 := cnd j (.t (.int (b : Nat)))
          rw [decide_eq_true w.old] at c1
          have s1 : t__law_walk_3 (E j (.t (.int (b : Nat)))) = some (.brk, E j (.t (.int (b : Nat)))) := (dIfS_t c1).trans rfl
          simp only [l__law_walk_1, dSeq, s1, Option.bind_some]
        · refine ⟨E (min j m) (.t (.int (b : Nat))), E (min (j + 1) m) (.t (.int (b : Nat))), rfl, ?_, _, rfl⟩
          rw [if_neg (by omega), Nat.min_eq_left (by omega), Nat.min_eq_left (by omega)]
          exact go j _ (by omega)) (List.range (2 ^ (n + 1))) 0 (by omega) (by simp only [List.length_range]; omega) (E 0 .un) ⟨.un, by rw [Nat.zero_min]⟩
      rw [Nat.min_eq_right (Nat.le_succ _)] at hf
      exact ⟨s, dFor_eq rng hf⟩
  obtain ⟨s, s6⟩ := fin
  refine bodyP_ref (ρ' := E m s) rfl ?_ (i := 2) rfl
  show d__law_walk (E__law_walk (.t x) (.t (.int (a : Nat))) .un .un .un) = _
  have s2 : t__law_walk_2 (E__law_walk (.t x) (.t (.int (a : Nat))) (.own (.lst [])) .un .un) = some (.nx, E 0 .un) := dSet_t (i := 3) (half_den (t := t) (i := 0) rfl (glen _) hl) (show 3 < 5 from by decide)
  rw [d__law_walk, dSeq_nx (ρ' := E__law_walk (.t x) (.t (.int (a : Nat))) (.own (.lst [])) .un .un) rfl, dSeq_nx s2, dSeq_nx s6]
  rfl
/-! ### the law's own tuples -/
theorem foldl_flat {α β : Type} (y : α → List β) : ∀ (as : List α) (b : List β), as.foldl (fun b a => b ++ y a) b = b ++ as.flatMap y
  | [], b => by simp
  | a :: as, b => by simp [foldl_flat y as, List.flatMap_cons]
theorem ev_law_tuples (n : Nat) (hn : n < 10) : f__law_tuples [.int 2, .int (n : Nat)] = some (.own (.lst ((sts n).map tupT))) := by
  let E (i : Nat) (s o : L) : REnv := E__law_tuples (.t (.int 2)) (.t (.int (n : Nat))) (.own (.lst ((sts i).map tupT))) s .un o .un
  have pw : ∀ i, i < n → 2 ^ (i + 1) ≤ 1024 := fun i hi => by
    have : 2 ^ (i + 1) ≤ 2 ^ 10 := Nat.pow_le_pow_right (by decide) (by omega)
    omega
  obtain ⟨ρ', hl, s, o, rfl⟩ := forL_range (g := gNameT 3) (db := l__law_tuples_2) (fun i ρ => ∃ s o, ρ = E i s o) n (by
    rintro i ρ hi ⟨s, o, rfl⟩
    have pwi := pw i hi
    refine ⟨E i (.t (.int (i : Nat))) o, ?_⟩
    let H (lo : List (List Int)) (o x : L) : REnv := E__law_tuples (.t (.int 2)) (.t (.int (n : Nat))) .un (.t (.int (i : Nat))) (.own (.lst (lo.map tupT))) o x
    let G (lo : List (List Int)) (o : L) : REnv := E__law_tuples (.t (.int 2)) (.t (.int (n : Nat))) (.own (.lst ((sts i).map tupT))) (.t (.int (i : Nat))) (.own (.lst (lo.map tupT))) o .un
    let y (l : List Int) : List (List Int) := [l ++ [0], l ++ [1]]
    have two : ∀ as : List (List Int), (as.flatMap y).length = 2 * as.length := fun as => by
      induction as with
      | nil => rfl
      | cons b bs ih => rw [List.flatMap_cons, List.length_append, ih]; show 2 + 2 * bs.length = 2 * (bs.length + 1); omega
    obtain ⟨ρ2, hf, o2, rfl⟩ := forL_ix (g := gNameT 5) (db := l__law_tuples_1) (t := tupT) (fun k ρ => ∃ o, ρ = H (((sts i).take k).flatMap y) o .un) (sts i) 0 (by
      rintro k l ρ hk ⟨o, rfl⟩
      rw [Nat.zero_add]
      have hkl : k < (sts i).length := (List.getElem?_eq_some_iff.mp hk).1
      rw [sts_len] at hkl
      have pw2 : 2 * 2 ^ i ≤ 1024 := by rw [Nat.pow_succ] at pwi; omega
      have hlen : l.length = i := by
        obtain ⟨a, ha, rfl⟩ := List.mem_map.mp (List.mem_of_getElem? hk)
        exact st_len i a
      generalize hlo : ((sts i).take k).flatMap y = lo
      have lolen : lo.length ≤ 1024 := by rw [← hlo, two, List.length_take]; omega
      refine ⟨H lo (.t (tupT l)) .un, H (lo ++ y l) (.t (tupT l)) .un, rfl, ?_, .t (tupT l), ?_⟩
      · have c : c__law_tuples_1 (H lo (.t (tupT l)) .un) = some (.own (.lst [tupT (l ++ [0]), tupT (l ++ [1])]), H lo (.t (tupT l)) .un) := by
          refine compD_eq (xs := (List.range 2).map fun i => T.int (i : Nat)) (ho := none) (ρ1 := H lo (.t (tupT l)) .un) (iRange1_eq (n := 2) rfl (by omega)) (compL_m (fun i : Nat => T.int (i : Nat)) (fun b : Nat => tupT (l ++ [(b : Int)])) (List.range 2) fun b hb => ?_) (show 2 ≤ 16777216 from by decide)
          exact ⟨H lo (.t (tupT l)) (.t (.int (b : Nat))), rfl, _, _, app_tup rfl rfl (by omega), rfl, rfl⟩
        have s3 := den2_eq (g := gAdd) (d1 := gVar 4) (ρ := H lo (.t (tupT l)) .un) (ρ1 := H lo (.t (tupT l)) .un) (l1 := .ref 4) rfl c (gAdd_ro _ (k := 4) (a := lo.map tupT) rfl (by simp only [List.length_map, List.length_cons, List.length_nil, line]; omega))
        have := dSet_o (i := 4) s3 (show 4 < 7 from by decide)
        rw [show lo.map tupT ++ [tupT (l ++ [0]), tupT (l ++ [1])] = (lo ++ y l).map tupT by rw [List.map_append]; rfl] at this
        exact this
      · rw [List.take_add_one, hk, List.flatMap_append, hlo]
        simp [List.flatMap_cons]) (H [] o .un) ⟨o, rfl⟩
    rw [Nat.zero_add, List.take_length, show (sts i).flatMap y = sts (i + 1) from sts_succ i] at hf
    have src : iSeq (gVar 2) (G [] o) = some ((sts i).map tupT, some 2, G [] o) := rfl
    have s4 : t__law_tuples_4 (G [] o) = some (.nx, G (sts (i + 1)) o2) := dFor_h src rfl hf
    refine ⟨E (i + 1) (.t (.int (i : Nat))) o2, rfl, ?_, _, _, rfl⟩
    rw [l__law_tuples_2, dSeq_nx (ρ' := G [] o) rfl, dSeq_nx s4]
    rfl) (E 0 .un .un) ⟨.un, .un, rfl⟩
  have s6 : t__law_tuples_6 (E 0 .un .un) = some (.nx, E n s o) := dFor_eq (iRange1_eq (n := n) rfl (by omega)) hl
  refine bodyP_ref (ρ' := E n s o) rfl ?_ (i := 2) rfl
  show d__law_tuples (E__law_tuples (.t (.int 2)) (.t (.int (n : Nat))) .un .un .un .un .un) = _
  rw [d__law_tuples, dSeq_nx (ρ' := E 0 .un .un) rfl, dSeq_nx s6]
  rfl
end LK
namespace LK
open PySem LW
open L2 (atI ixN)

/-! ### the rounds of a table -/
def rstep (f : Nat → Nat) (N : Nat) (s : List (List Nat) × List Nat) (a : Nat) : List (List Nat) × List Nat := if a ∈ s.2 then s else (s.1 ++ [wk f N a], s.2 ++ wk f N a)
def rS (f : Nat → Nat) (N k : Nat) : List (List Nat) × List Nat := (List.range k).foldl (rstep f N) ([], [])
theorem rS_succ (f : Nat → Nat) (N k : Nat) : rS f N (k + 1) = rstep f N (rS f N k) k := by simp [rS, List.range_succ]
theorem wk_len {f : Nat → Nat} {N a : Nat} (hf : ∀ a, a < N → f a < N) (ha : a < N) : (wk f N a).length ≤ N ∧ ∀ x ∈ wk f N a, x < N := by
  obtain ⟨m, w⟩ := wk_ex hf ha
  rw [wk_eq w, ws_len]
  refine ⟨w.le, fun x hx => ?_⟩
  obtain ⟨j, _, rfl⟩ := mem_ws.mp hx
  exact itF_lt hf j a ha
theorem rS_len {f : Nat → Nat} {N : Nat} (hf : ∀ a, a < N → f a < N) : ∀ k, k ≤ N → (rS f N k).2.length ≤ k * N ∧ (rS f N k).1.length ≤ k ∧ ∀ x ∈ (rS f N k).2, x < N
  | 0, _ => ⟨Nat.zero_le _, Nat.zero_le _, fun x hx => by cases hx⟩
  | k + 1, hk => by
    obtain ⟨h1, h2, h3⟩ := rS_len hf k (by omega)
    have w := wk_len (f := f) (N := N) (a := k) hf (by omega)
    rw [rS_succ]
    unfold rstep
    split
    · exact ⟨by rw [Nat.succ_mul]; omega, by omega, h3⟩
    · refine ⟨?_, ?_, fun x hx => ?_⟩
      · have := w.1
        simp only [List.length_append, Nat.succ_mul]; omega
      · simp only [List.length_append, List.length_singleton]; omega
      · rcases List.mem_append.mp hx with hx | hx
        · exact h3 x hx
        · exact w.2 x hx
theorem gAdd_rt (ρ : REnv) {k : Nat} {a b : List T} (hr : ρ[k]? = some (.own (.lst a))) (h : a.length + b.length ≤ line) : gAdd ρ (.ref k) (.t (.lst b)) = some (.own (.lst (a ++ b))) := by simp only [gAdd, gCat, L.lview, hr, h, if_true]
def lwT (w : List Nat) : T := .lst (ii (nI w))
theorem ev_law_rounds {n : Nat} {t : List Int} (h : Tb (n + 1) t) (hn : n < 6) : f__law_rounds [.lst (ii t)] = some (.own (.lst ((rS (nx t) (2 ^ (n + 1)) (2 ^ (n + 1))).1.map lwT))) := by
  have hp := pow_small hn
  have hf : ∀ a, a < 2 ^ (n + 1) → nx t a < 2 ^ (n + 1) := fun a _ => h.nx_lt a
  have N2 : 2 ^ (n + 1) * 2 ^ (n + 1) ≤ 64 * 64 := Nat.mul_le_mul hp hp
  let N := 2 ^ (n + 1)
  let E (s : List (List Nat) × List Nat) (x y : L) : REnv := E__law_rounds (.t (.lst (ii t))) (.own (.lst (s.1.map lwT))) (.own (.lst (ii (nI s.2)))) x y
  obtain ⟨ρ', hl, x, y, rfl⟩ := forL_range (g := gNameT 3) (db := l__law_rounds_1) (fun i ρ => ∃ x y, ρ = E (rS (nx t) N i) x y) N (by
    rintro i ρ hi ⟨x, y, rfl⟩
    obtain ⟨b1, b2, b3⟩ := rS_len hf i (by omega)
    have b1' : i * 2 ^ (n + 1) ≤ 2 ^ (n + 1) * 2 ^ (n + 1) := Nat.mul_le_mul_right _ (by omega)
    obtain ⟨m, w⟩ := wk_ex hf hi
    have mle := w.le
    rw [rS_succ]
    have ew := wk_eq w
    change (rS (nx t) N i).2.length ≤ _ at b1
    change (rS (nx t) N i).1.length ≤ _ at b2
    generalize rS (nx t) N i = s at *
    have cnd : b__law_rounds_1 (E s (.t (.int (i : Nat))) y) = some (!decide (i ∈ s.2), E s (.t (.int (i : Nat))) y) := by
      have e1 : gNotIn (E s (.t (.int (i : Nat))) y) (.t (.int (i : Nat))) (.ref 2) = some (!decide (i ∈ s.2)) := by
        rw [gNot_e (gIn_tr (ρ := E s (.t (.int (i : Nat))) y) (k := 2) (x := .int (i : Nat)) (ys := ii (nI s.2)) rfl rfl (shp_lst _)), inl_int, decide_eq_decide.mpr mem_nI]
      exact dBl_eq (den2_eq (g := gB gNotIn) (d1 := gVar 3) (d2 := gVar 2) (ρ := E s (.t (.int (i : Nat))) y) (ρ1 := E s (.t (.int (i : Nat))) y) (ρ2 := E s (.t (.int (i : Nat))) y) (l1 := .t (.int (i : Nat))) (l2 := .ref 2) rfl rfl (gB_e e1))
    refine ⟨E s (.t (.int (i : Nat))) y, ?_⟩
    by_cases q : i ∈ s.2
    · refine ⟨E s (.t (.int (i : Nat))) y, rfl, ?_, .t (.int (i : Nat)), y, ?_⟩
      · rw [decide_eq_true q] at cnd
        exact (dIfS_f cnd).trans rfl
      · rw [show rstep (nx t) N s i = s from if_pos q]
    · let W : T := lwT (ws (nx t) i m)
      let s' : List (List Nat) × List Nat := (s.1 ++ [ws (nx t) i m], s.2 ++ ws (nx t) i m)
      have es : rstep (nx t) N s i = s' := by rw [rstep, if_neg q, show wk (nx t) N i = ws (nx t) i m from ew]
      refine ⟨E s' (.t (.int (i : Nat))) (.t W), rfl, ?_, .t (.int (i : Nat)), .t W, by rw [es]⟩
      rw [decide_eq_false q] at cnd
      refine (dIfS_t cnd).trans ?_
      have c := dCallP_eq (n := 2) (f := f__law_walk) (da := dCons (gVar 0) (dCons (gVar 3) dNil)) (ρ := E s (.t (.int (i : Nat))) y) (ρ1 := E s (.t (.int (i : Nat))) y) rfl rfl (ev_law_walk (.inl rfl) h hn hi w) rfl
      have s3 := dSet_o (i := 4) c (show 4 < 5 from by decide)
      have s4 := meth_app (i := 1) (da := dCons (dFrz 4) dNil) (ρ := E s (.t (.int (i : Nat))) (.own (.lst (ii (nI (ws (nx t) i m)))))) (ρ1 := E s (.t (.int (i : Nat))) (.t W)) (xs := s.1.map lwT) (x := W) rfl rfl rfl (by simp only [List.length_map, line]; omega)
      let G : REnv := E__law_rounds (.t (.lst (ii t))) (.own (.lst (s'.1.map lwT))) (.own (.lst (ii (nI s.2)))) (.t (.int (i : Nat))) (.t W)
      have eg : ((E s (.t (.int (i : Nat))) (.t W)).set 1 (.own (.lst (s.1.map lwT ++ [W])))) = G := by
        rw [show s.1.map lwT ++ [W] = s'.1.map lwT by rw [List.map_append]; rfl]
        rfl
      rw [eg] at s4
      have s5 := dSet_o (i := 2) (den2_eq (g := gAdd) (d1 := gVar 2) (d2 := gVar 4) (ρ := G) (ρ1 := G) (ρ2 := G) (l1 := .ref 2) (l2 := .t W) rfl rfl (gAdd_rt _ (k := 2) (a := ii (nI s.2)) (b := ii (nI (ws (nx t) i m))) rfl (by simp only [List.length_map, ws_len, line]; omega))) (show 2 < 5 from by decide)
      refine (dSeq_nx (d := t__law_rounds_3) s3).trans ?_
      refine (dSeq_nx (d := t__law_rounds_4) s4).trans ?_
      refine Eq.trans s5 ?_
      rw [show ii (nI s.2) ++ ii (nI (ws (nx t) i m)) = ii (nI s'.2) by simp [ii, nI, s']]
      rfl) (E (rS (nx t) N 0) .un .un) ⟨.un, .un, rfl⟩
  have rng : iRange1 (dCons (den1 gLen (gVar 0)) dNil) (E ([], []) .un .un) = some ((List.range N).map fun i => T.int (i : Nat), none, E ([], []) .un .un) := by
    rw [show N = t.length from h.1.symm]
    exact iRange1_eq (n := t.length) (den1_eq (l1 := .t (.lst (ii t))) (ρ1 := E ([], []) .un .un) rfl (gLen_l _ t)) (by rw [h.1]; omega)
  have s7 : t__law_rounds_7 (E ([], []) .un .un) = some (.nx, E (rS (nx t) N N) x y) := dFor_eq rng hl
  refine bodyP_ref (ρ' := E (rS (nx t) N N) x y) rfl ?_ (i := 1) rfl
  show d__law_rounds (E__law_rounds (.t (.lst (ii t))) .un .un .un .un) = _
  rw [d__law_rounds, dSeq_nx (ρ' := E__law_rounds (.t (.lst (ii t))) (.own (.lst [])) .un .un .un) rfl, dSeq_nx (ρ' := E ([], []) .un .un) rfl, dSeq_nx s7]
  rfl
/-! ### the same with a dict of states -/
def kb (n b : Nat) : List L2.Key := (st n b).map Sum.inl
theorem keysOf_ii : ∀ l : List Int, keysOf (ii l) = some (l.map Sum.inl)
  | [] => rfl
  | x :: l => by
    have := keysOf_ii l
    simp only [ii, List.map_cons, keysOf, T.key, Option.bind_some]
    rw [show List.map T.int l = ii l from rfl, this]
    rfl
theorem tkey_st (n b : Nat) : (stT n b).tkey = some (kb n b) := keysOf_ii _
theorem kb_inj {n a b : Nat} (ha : a < 2 ^ n) (hb : b < 2 ^ n) : kb n a = kb n b ↔ a = b := by
  constructor
  · intro h
    have : st n a = st n b := by
      have inj : ∀ (l l' : List Int), l.map (Sum.inl (β := Str)) = l'.map Sum.inl → l = l' := fun l => by
        induction l with
        | nil => intro l' h; cases l' <;> simp_all
        | cons x l ih =>
          intro l' h
          cases l' with
          | nil => simp at h
          | cons y l' => simp only [List.map_cons, List.cons.injEq, Sum.inl.injEq] at h; rw [h.1, ih l' h.2]
      exact inj _ _ h
    exact st_inj ha hb this
  · rintro rfl; rfl
theorem getT_some (kvs : DTs) (k : List L2.Key) : (getT kvs k).isSome = kvs.any fun kv => decide (kv.1 = k) := by
  unfold getT
  rw [Option.isSome_map]
  induction kvs with
  | nil => rfl
  | cons p r ih =>
    by_cases e : p.1 = k
    · simp [List.find?_cons, e]
    · simp only [List.find?_cons, e, decide_false, List.any_cons, Bool.false_or, ih]
theorem putT_some (kvs : DTs) (k k' : List L2.Key) (x : T) : (getT (putT kvs k x) k').isSome = (decide (k = k') || (getT kvs k').isSome) ∧ (putT kvs k x).length ≤ kvs.length + 1 := by
  rw [getT_some, getT_some]
  unfold putT
  split
  · rename_i h
    refine ⟨?_, by simp⟩
    rw [List.any_map]
    have e : ((fun kv : List L2.Key × T => decide (kv.1 = k')) ∘ fun kv => if kv.1 = k then (kv.1, x) else kv) = fun kv => decide (kv.1 = k') := funext fun kv => by
      by_cases q : kv.1 = k
      · simp [q]
      · simp [q]
    rw [e]
    by_cases q : k = k'
    · subst q
      rw [h]; simp
    · simp [q]
  · refine ⟨?_, by simp⟩
    rw [List.any_append]
    simp [Bool.or_comm]
theorem dnot_e {ρ : REnv} {k : Nat} {x : T} {kvs : DTs} {ks : List L2.Key} (h : ρ[k]? = some (.own (.dT kvs))) (hx : x.tkey = some ks) : gDnotin ρ (.t x) (.ref k) = some (!(getT kvs ks).isSome) := by
  simp only [gDnotin, gDin, L.view, dlook, L.dview, L.tview, h, hx, Option.bind_some, Option.map_some]
def wT (n : Nat) (w : List Nat) : T := .lst (w.map (stT n))
theorem ev_rounds_of_table {n : Nat} {t : List Int} (h : Tb (n + 1) t) (hn : n < 6) : f_rounds_of_table [.lst (ii t)] = some (.own (.lst ((rS (nx t) (2 ^ (n + 1)) (2 ^ (n + 1))).1.map (wT (n + 1))))) := by
  have hp := pow_small hn
  have hf : ∀ a, a < 2 ^ (n + 1) → nx t a < 2 ^ (n + 1) := fun a _ => h.nx_lt a
  have N2 : 2 ^ (n + 1) * 2 ^ (n + 1) ≤ 64 * 64 := Nat.mul_le_mul hp hp
  let N := 2 ^ (n + 1)
  let E (s : List (List Nat)) (kvs : DTs) (x y z : L) : REnv := E_rounds_of_table (.t (.lst (ii t))) (.own (.dT kvs)) (.own (.lst (s.map (wT (n + 1))))) x y z
  let Gd (kvs : DTs) (met : List Nat) : Prop := (∀ b, b < N → (getT kvs (kb (n + 1) b)).isSome = decide (b ∈ met)) ∧ kvs.length ≤ met.length
  obtain ⟨ρ', hl, kvs0, x, y, z, gd0, rfl⟩ := forL_ix (g := gNameT 3) (db := l_rounds_of_table_2) (t := stT (n + 1)) (fun i ρ => ∃ kvs x y z, Gd kvs (rS (nx t) N i).2 ∧ ρ = E (rS (nx t) N i).1 kvs x y z) (List.range N) 0 (by
    rintro i a ρ hia ⟨kvs, x, y, z, gd, rfl⟩
    rw [Nat.zero_add] at gd ⊢
    have hi : i < N := by have := (List.getElem?_eq_some_iff.mp hia).1; simpa using this
    obtain rfl : a = i := by rw [List.getElem?_range hi] at hia; exact (Option.some.inj hia).symm
    obtain ⟨b1, b2, b3⟩ := rS_len hf a (Nat.le_of_lt hi)
    have b1' : a * 2 ^ (n + 1) ≤ 2 ^ (n + 1) * 2 ^ (n + 1) := Nat.mul_le_mul_right _ (Nat.le_of_lt hi)
    obtain ⟨m, w⟩ := wk_ex hf hi
    have mle := w.le
    rw [rS_succ]
    have ew := wk_eq w
    change (rS (nx t) N a).2.length ≤ _ at b1
    change (rS (nx t) N a).1.length ≤ _ at b2
    generalize rS (nx t) N a = s at *
    obtain ⟨g1, g2⟩ := gd
    have cnd : b_rounds_of_table_1 (E s.1 kvs (.t (stT (n + 1) a)) y z) = some (!decide (a ∈ s.2), E s.1 kvs (.t (stT (n + 1) a)) y z) := by
      have e1 := dnot_e (ρ := E s.1 kvs (.t (stT (n + 1) a)) y z) (k := 1) (x := stT (n + 1) a) rfl (tkey_st (n + 1) a)
      rw [g1 a hi] at e1
      exact dBl_eq (den2_eq (g := gB gDnotin) (d1 := gVar 3) (d2 := gVar 1) (ρ := E s.1 kvs (.t (stT (n + 1) a)) y z) (ρ1 := E s.1 kvs (.t (stT (n + 1) a)) y z) (ρ2 := E s.1 kvs (.t (stT (n + 1) a)) y z) (l1 := .t (stT (n + 1) a)) (l2 := .ref 1) rfl rfl (gB_e e1))
    refine ⟨E s.1 kvs (.t (stT (n + 1) a)) y z, ?_⟩
    by_cases q : a ∈ s.2
    · refine ⟨E s.1 kvs (.t (stT (n + 1) a)) y z, rfl, ?_, kvs, .t (stT (n + 1) a), y, z, ?_, ?_⟩
      · rw [decide_eq_true q] at cnd
        exact (dIfS_f cnd).trans rfl
      · rw [show rstep (nx t) N s a = s from if_pos q]; exact ⟨g1, g2⟩
      · rw [show rstep (nx t) N s a = s from if_pos q]
    · have es : rstep (nx t) N s a = (s.1 ++ [ws (nx t) a m], s.2 ++ ws (nx t) a m) := by rw [rstep, if_neg q, show wk (nx t) N a = ws (nx t) a m from ew]
      rw [decide_eq_false q] at cnd
      have c := dCallP_eq (n := 2) (f := f_table_states) (da := dCons (gVar 0) (dCons (gVar 3) dNil)) (ρ := E s.1 kvs (.t (stT (n + 1) a)) y z) (ρ1 := E s.1 kvs (.t (stT (n + 1) a)) y z) rfl rfl (ev_table_states h hn hi w) rfl
      have s3 := dSet_o (i := 4) c (show 4 < 6 from by decide)
      let Y : L := .own (.lst ((ws (nx t) a m).map (stT (n + 1))))
      -- the inner loop
      obtain ⟨ρ2, hl2, kv2, z2, gd2, rfl⟩ := forL_ix (g := gNameT 5) (db := l_rounds_of_table_1) (t := stT (n + 1)) (fun j ρ => ∃ kv z, ((∀ b, b < N → (getT kv (kb (n + 1) b)).isSome = decide (b ∈ s.2 ++ (ws (nx t) a m).take j)) ∧ kv.length ≤ s.2.length + j) ∧ ρ = E s.1 kv (.t (stT (n + 1) a)) .un z) (ws (nx t) a m) 0 (by
        rintro j b ρ hjb ⟨kv, z, ⟨k1, k2⟩, rfl⟩
        rw [Nat.zero_add] at k1 k2 ⊢
        have hj := (List.getElem?_eq_some_iff.mp hjb).1
        rw [ws_len] at hj
        have hb : b < N := by
          obtain ⟨l, _, rfl⟩ := mem_ws.mp (List.mem_of_getElem? hjb)
          exact itF_lt hf l a hi
        have hsm : kv.length < line := by simp only [line]; omega
        refine ⟨E s.1 kv (.t (stT (n + 1) a)) .un (.t (stT (n + 1) b)), E s.1 (putT kv (kb (n + 1) b) (.bl true)) (.t (stT (n + 1) a)) .un (.t (stT (n + 1) b)), rfl, ?_, putT kv (kb (n + 1) b) (.bl true), .t (stT (n + 1) b), ⟨fun c hc => ?_, ?_⟩, rfl⟩
        · have k5 : gVar 5 (E s.1 kv (.t (stT (n + 1) a)) .un (.t (stT (n + 1) b))) = some (.t (stT (n + 1) b), E s.1 kv (.t (stT (n + 1) a)) .un (.t (stT (n + 1) b))) := rfl
          have k6 : isOwnDT (E s.1 kv (.t (stT (n + 1) a)) .un (.t (stT (n + 1) b))) 1 = true := rfl
          have k7 : (E s.1 kv (.t (stT (n + 1) a)) .un (.t (stT (n + 1) b)))[1]? = some (.own (.dT kv)) := rfl
          rw [show l_rounds_of_table_1 = dDputT 1 (gVar 5) (gC (.bl true)) from rfl]
          simp only [dDputT, gC, Option.bind_some, L.tree, k6, if_true, k5, tkey_st, k7, hsm]
          rfl
        · rw [(putT_some kv (kb (n + 1) b) (kb (n + 1) c) (.bl true)).1, k1 c hc, List.take_add_one, hjb, ← List.append_assoc]
          by_cases e : b = c
          · subst e; simp
          · have e2 : ¬ kb (n + 1) b = kb (n + 1) c := fun z => e ((kb_inj hb hc).mp z)
            have e3 : ¬ c = b := fun z => e z.symm
            simp [e2, e3]
        · have := (putT_some kv (kb (n + 1) b) [] (.bl true)).2
          omega) (E s.1 kvs (.t (stT (n + 1) a)) .un z) ⟨kvs, z, ⟨by simpa using g1, by omega⟩, rfl⟩
      rw [Nat.zero_add, List.take_length] at gd2
      rw [ws_len] at gd2
      have s5 : t_rounds_of_table_5 (E s.1 kvs (.t (stT (n + 1) a)) Y z) = some (.nx, E s.1 kv2 (.t (stT (n + 1) a)) Y z2) := dFor_h (src := iSeq (gVar 4)) (xs := (ws (nx t) a m).map (stT (n + 1))) (j := 4) (ρ1 := E s.1 kvs (.t (stT (n + 1) a)) Y z) rfl rfl hl2
      let W : T := wT (n + 1) (ws (nx t) a m)
      have s6 := meth_app (i := 2) (da := dCons (dFrz 4) dNil) (ρ := E s.1 kv2 (.t (stT (n + 1) a)) Y z2) (ρ1 := E s.1 kv2 (.t (stT (n + 1) a)) (.t W) z2) (xs := s.1.map (wT (n + 1))) (x := W) rfl rfl rfl (by simp only [List.length_map, line]; omega)
      refine ⟨E (s.1 ++ [ws (nx t) a m]) kv2 (.t (stT (n + 1) a)) (.t W) z2, rfl, ?_, kv2, .t (stT (n + 1) a), .t W, z2, ?_, by rw [es]⟩
      · refine (dIfS_t cnd).trans ?_
        refine (dSeq_nx (d := t_rounds_of_table_3) s3).trans ?_
        refine (dSeq_nx (d := t_rounds_of_table_5) s5).trans ?_
        refine Eq.trans s6 ?_
        rw [show s.1.map (wT (n + 1)) ++ [W] = (s.1 ++ [ws (nx t) a m]).map (wT (n + 1)) by rw [List.map_append]; rfl]
        rfl
      · rw [es]
        exact ⟨gd2.1, by rw [List.length_append, ws_len]; exact gd2.2⟩) (E [] [] .un .un .un) ⟨[], .un, .un, .un, ⟨fun b _ => rfl, Nat.le_refl _⟩, rfl⟩
  rw [Nat.zero_add, List.length_range] at hl
  have src : iSeq (dCallP 2 f_all_tuples (dCons (gC (.int 2)) (dCons (dCallP 1 f_size_of_table (dCons (gVar 0) dNil)) dNil))) (E [] [] .un .un .un) = some ((List.range N).map (stT (n + 1)), none, E [] [] .un .un .un) := by
    let F : REnv := E [] [] .un .un .un
    have c1 := dCallP_eq (n := 1) (f := f_size_of_table) (da := dCons (gVar 0) dNil) (ρ := F) (ρ1 := F) rfl rfl (ev_size_of_table h.1 (by omega)) rfl
    have c2 := dCallP_eq (n := 2) (f := f_all_tuples) (dCons_eq (d := gC (.int 2)) (ρ := F) (ρ1 := F) (l := .t (.int 2)) rfl rfl (dCons_eq c1 rfl (da := dNil) (ts := []) rfl)) rfl (ev_all_tuples (n + 1) (by omega)) rfl
    rw [iSeq, c2]
    rw [show (List.range N).map (stT (n + 1)) = (sts (n + 1)).map tupT by rw [sts, List.map_map]; rfl]
    rfl
  have s8 : t_rounds_of_table_8 (E [] [] .un .un .un) = some (.nx, E (rS (nx t) N N).1 kvs0 x y z) := dFor_eq src hl
  refine bodyP_ref (ρ' := E (rS (nx t) N N).1 kvs0 x y z) rfl ?_ (i := 2) rfl
  show d_rounds_of_table (E_rounds_of_table (.t (.lst (ii t))) .un .un .un .un .un) = _
  rw [d_rounds_of_table, dSeq_nx (ρ' := E_rounds_of_table (.t (.lst (ii t))) (.own (.dT [])) .un .un .un .un) rfl, dSeq_nx (ρ' := E [] [] .un .un .un) rfl, dSeq_nx s8]
  rfl
end LK
namespace LK
open PySem LW
def isI (r : Option L) (i : Int) : Bool := match r with
  | some (.t (.int j)) => decide (j = i)
  | _ => false
theorem t1 : isI (f__law_counted [.int 1]) 1 = true := by decide +kernel
theorem t2 : isI (f__law_counted [.int 2]) 1 = true := by decide +kernel
theorem t3 : isI (f__law_counted [.int 3]) 2 = true := by decide +kernel
end LK
namespace LK
open PySem LW
open L2 (atI ixN)

theorem ev_law_joined {n : Nat} {t : List Int} (h : Gd n t) (hn : n < 6) : f__law_joined [.lst (ii t)] = some (.own (.lst (ii (joinK n t (2 ^ n))))) := by
  have hp := pow_small hn
  have hl := h.1.1
  let E (u : List Int) (x y : L) : REnv := E__law_joined (.t (.lst (ii t))) (.own (.lst (ii u))) (.t (.int ((2 ^ n : Nat) : Int))) x y
  have s2 : t__law_joined_2 (E__law_joined (.t (.lst (ii t))) (.own (.lst (ii t))) .un .un .un) = some (.nx, E t .un .un) :=
    dSet_t (i := 2) (half_den (ρ := E__law_joined (.t (.lst (ii t))) (.own (.lst (ii t))) .un .un .un) (t := t) (i := 1) (x := .ref 1) rfl (by rw [gLen_r _ (k := 1) (t := ii t) rfl, ii_len]) hl) (show 2 < 5 from by decide)
  obtain ⟨ρ', hf, x, y, rfl⟩ := forL_range (g := gNameT 3) (db := l__law_joined_1) (fun i ρ => ∃ x y, ρ = E (joinK n t i) x y) (2 ^ n) (by
    rintro i ρ hi ⟨x, y, rfl⟩
    have g := (joined_ok h i (by omega)).1
    rw [joinK_succ]
    generalize joinK n t i = u at g
    have hu := g.1.1
    have hN : i < 2 ^ (n + 1) ∧ i + 2 ^ n < 2 ^ (n + 1) := by rw [Nat.pow_succ]; omega
    obtain ⟨m, w⟩ := wk_ex g.pm.lt hN.1
    let G (u : List Int) (y : L) : REnv := E u (.t (.int (i : Nat))) y
    let F : REnv := E__law_joined (.t (.lst (ii t))) (.t (.lst (ii u))) (.t (.int ((2 ^ n : Nat) : Int))) (.t (.int (i : Nat))) (match y with | .own (.lst xs) => .t (.lst xs) | y => y)
    have sum : ∀ (u : List Int) (y : L), den2 gAdd (gVar 3) (gVar 2) (G u y) = some (.t (.int ((i + 2 ^ n : Nat) : Int)), G u y) := fun u y => rfl
    have c0 := ev_law_walk (.inl rfl) g.1 hn hN.1 w
    have cB : dBor (dCallP 2 f__law_walk (dCons (gVar 1) (dCons (gVar 3) dNil))) (G u y) = some (.own (.lst (ii (nI (ws (nx u) i m)))), G u y) := by
      have da : dCons (gVar 1) (dCons (gVar 3) dNil) (frzE (G u y)) = some ([.lst (ii u), .int (i : Nat)], frzE (G u y)) := rfl
      exact dBor_eq (dCallP_eq (n := 2) da rfl c0 rfl) (noL_own _)
    have b : b__law_joined_1 (G u y) = some (apart u n i, G u y) := by
      have e1 : gNotIn (G u y) (.t (.int ((i + 2 ^ n : Nat) : Int))) (.own (.lst (ii (nI (ws (nx u) i m))))) = some (!decide (i + 2 ^ n ∈ ws (nx u) i m)) := by
        rw [gNot_e (gIn_to (ρ := G u y) (x := .int ((i + 2 ^ n : Nat) : Int)) (ys := ii (nI (ws (nx u) i m))) rfl (shp_lst _)), inl_int, decide_eq_decide.mpr mem_nI]
      have eb : (!decide (i + 2 ^ n ∈ ws (nx u) i m)) = apart u n i := by
        unfold apart
        rw [wk_eq w]
        by_cases q : i + 2 ^ n ∈ ws (nx u) i m <;> simp [q]
      rw [eb] at e1
      exact dBl_eq (den2_eq (g := gB gNotIn) (sum u y) cB (gB_e e1))
    refine ⟨G u y, ?_⟩
    unfold joinStep
    by_cases q : apart u n i = true
    · refine ⟨G (swapT u i (i + 2 ^ n)) (.t (.int (u.getD i 0))), rfl, ?_, .t (.int (i : Nat)), .t (.int (u.getD i 0)), by rw [if_pos q]⟩
      rw [q] at b
      refine (dIfS_t (c := b__law_joined_1) (d := dSeq t__law_joined_3 (dSeq t__law_joined_4 t__law_joined_5)) (d' := dNx) b).trans ?_
      let z : L := .t (.int (u.getD i 0))
      have s3 : t__law_joined_3 (G u y) = some (.nx, G u z) := dSet_t (i := 4) (den2_eq (g := gIx) (d1 := gVar 1) (d2 := gVar 3) (ρ := G u y) (ρ1 := G u y) (ρ2 := G u y) (l1 := .ref 1) (l2 := .t (.int (i : Nat))) rfl rfl (gIx_o _ (xs := ii u) rfl (ix_nat (t := u) (a := i) (by omega)))) (show 4 < 5 from by decide)
      have y1 := gSubT_e (j := 1) (k := i) (di := gVar 3) (ρ := G u z) (xs := ii u) (y := .int (u.getD (i + 2 ^ n) 0)) rfl rfl (by rw [ii_len]; omega)
      have s4 : t__law_joined_4 (G u z) = some (.nx, G (u.set i (u.getD (i + 2 ^ n) 0)) z) := by
        refine dAsg_eq (den2_eq (g := gIx) (d1 := gVar 1) (ρ := G u z) (ρ1 := G u z) (l1 := .ref 1) rfl (sum u z) (gIx_o _ (xs := ii u) rfl (ix_nat (t := u) (a := i + 2 ^ n) (by omega)))) rfl ?_
        rw [y1, iiset]
        rfl
      have y2 := gSubT_e (j := 1) (k := i + 2 ^ n) (di := den2 gAdd (gVar 3) (gVar 2)) (ρ := G (u.set i (u.getD (i + 2 ^ n) 0)) z) (xs := ii (u.set i (u.getD (i + 2 ^ n) 0))) (y := .int (u.getD i 0)) rfl (sum _ z) (by rw [ii_len, List.length_set]; omega)
      have s5 : t__law_joined_5 (G (u.set i (u.getD (i + 2 ^ n) 0)) z) = some (.nx, G (swapT u i (i + 2 ^ n)) z) := by
        refine dAsg_eq (d := gVar 4) (l := z) (ρ1 := G (u.set i (u.getD (i + 2 ^ n) 0)) z) rfl rfl ?_
        rw [y2, iiset]
        rfl
      exact (dSeq_nx s3).trans ((dSeq_nx s4).trans s5)
    · refine ⟨G u y, rfl, ?_, .t (.int (i : Nat)), y, by rw [if_neg q]⟩
      rw [Bool.not_eq_true] at q
      rw [q] at b
      exact (dIfS_f (c := b__law_joined_1) (d := dSeq t__law_joined_3 (dSeq t__law_joined_4 t__law_joined_5)) (d' := dNx) b).trans rfl) (E (joinK n t 0) .un .un) ⟨.un, .un, rfl⟩
  have s7 : t__law_joined_7 (E t .un .un) = some (.nx, E (joinK n t (2 ^ n)) x y) := dFor_eq (iRange1_eq (n := 2 ^ n) rfl (by rw [Nat.pow_succ] at hp; omega)) hf
  refine bodyP_ref (ρ' := E (joinK n t (2 ^ n)) x y) rfl ?_ (i := 1) rfl
  show d__law_joined (E__law_joined (.t (.lst (ii t))) .un .un .un .un) = _
  rw [d__law_joined, dSeq_nx (ρ' := E__law_joined (.t (.lst (ii t))) (.own (.lst (ii t))) .un .un .un) rfl, dSeq_nx s2, dSeq_nx s7]
  rfl
theorem isI_eq {r : Option L} {i : Int} (h : isI r i = true) : r = some (.t (.int i)) := by
  unfold isI at h
  split at h
  · have := of_decide_eq_true h
    rw [this]
  · cases h
theorem ev_counted (s : Nat) (h1 : 1 ≤ s) (h2 : s ≤ 3) : f__law_counted [.int (s : Nat)] = some (.t (.int ((2 ^ (2 ^ (s - 1) - s) : Nat) : Int))) := by
  have : s = 1 ∨ s = 2 ∨ s = 3 := by omega
  rcases this with rfl | rfl | rfl
  · exact isI_eq t1
  · exact isI_eq t2
  · exact isI_eq t3
/-! ### draws -/
theorem gd : g__law_draw = gDraw := rfl
theorem drw {i : Nat} {da : DenA} {ρ ρ1 : REnv} {fd : List T} {m : Int} (ho : isOwnL ρ i = true) (ha : da ρ = some ([.int m], ρ1)) (h1 : ρ1[i]? = some (.own (.lst fd))) (hf : GF fd) (hm : 0 < m) (hm2 : m < 1073741824) :
    ∃ (v : Nat) (fd' : List T), dCallF 2 i g__law_draw da ρ = some (.t (.int (v : Nat)), ρ1.set i (.own (.lst fd'))) ∧ (v : Int) < m ∧ GF fd' := by
  rw [gd]
  obtain ⟨v, fd', e, h2, h3, h4⟩ := draw_call ho ha h1 hf hm hm2
  obtain ⟨u, rfl⟩ := Int.eq_ofNat_of_zero_le h2
  exact ⟨u, fd', e, h3, h4⟩
def Bt (l : List Int) : Prop := ∀ x ∈ l, x = 0 ∨ x = 1
theorem ev_drawn {fd : List T} {n : Nat} (hf : GF fd) (hn : n < 6) : ∃ t fd', g__law_drawn fd [.int ((n + 1 : Nat) : Int)] = some (.own (.lst (ii t)), fd') ∧ Tb (n + 1) t ∧ GF fd' := by
  have hp := pow_small hn
  have pos := Nat.two_pow_pos n
  have hp2 : 2 ^ n ≤ 32 := by rw [Nat.pow_succ] at hp; omega
  let E (fd : List T) (size first rest way at_ : L) : REnv := E__law_drawn (.own (.lst fd)) (.t (.int ((n + 1 : Nat) : Int))) size first .un rest .un way at_
  let S : L := .t (.int ((2 ^ (n + 1) : Nat) : Int))
  let O (l : List Int) : L := .own (.lst (ii l))
  have s1 : t__law_drawn_1 (E fd .un .un .un .un .un) = some (.nx, E fd S .un .un .un .un) := by
    have c := dCallP_eq (n := 2) (f := f__law_tuples) (da := dCons (gC (.int 2)) (dCons (gVar 1) dNil)) (ρ := E fd .un .un .un .un .un) (ρ1 := E fd .un .un .un .un .un) rfl rfl (ev_law_tuples (n + 1) (by omega)) rfl
    have g := den1_eq c (gLen_n _ _)
    rw [List.length_map, sts_len] at g
    exact dSet_t (i := 2) g (show 2 < 9 from by decide)
  have half : ∀ fd f r w a, den2 gDiv (gVar 2) (gC (.int 2)) (E fd S f r w a) = some (.t (.int ((2 ^ n : Nat) : Int)), E fd S f r w a) := fun fd f r w a => by
    have := den2_eq (g := gDiv) (d1 := gVar 2) (d2 := gC (.int 2)) (ρ := E fd S f r w a) (ρ1 := E fd S f r w a) (ρ2 := E fd S f r w a) (l1 := S) (l2 := .t (.int 2)) rfl rfl (gDiv_e _ (by decide) (by decide))
    rwa [pow_half] at this
  -- draws of bits
  have bits : ∀ fd f r w a, GF fd → ∃ l fd', l.length = 2 ^ n ∧ Bt l ∧ GF fd' ∧ c__law_drawn_1 (E fd S f r w a) = some (O l, E fd' S f r w a) := fun fd f r w a hf => by
    obtain ⟨ys, fd', h1, h2, h3, h4⟩ := compL_draw (vs := [4]) (g := gNameT 4) (de := dCallF 2 0 g__law_draw (dCons (gC (.int 2)) dNil)) (m := 2) (fun fd => E fd S f r w a) ((List.range (2 ^ n)).map fun i => T.int (i : Nat)) (fun x hx fd hf => by
      obtain ⟨i, hi, rfl⟩ := List.mem_map.mp hx
      obtain ⟨v, fd', e, h1, h2⟩ := drw (i := 0) (da := dCons (gC (.int 2)) dNil) (ρ := E__law_drawn (.own (.lst fd)) (.t (.int ((n + 1 : Nat) : Int))) S f (.t (.int (i : Nat))) r .un w a) (m := 2) rfl rfl rfl hf (by decide) (by decide)
      exact ⟨_, v, fd', _, rfl, e, rfl, by omega, h1, h2⟩) fd hf
    have hl : ys.length = 2 ^ n := by rw [h2]; simp
    refine ⟨ys, fd', hl, fun x hx => by have := h3 x hx; omega, h4, ?_⟩
    exact compD_eq (ho := none) (iRange1_eq (n := 2 ^ n) (half fd f r w a) (by omega)) h1 (by simp only [ii, List.length_map, line]; omega)
  obtain ⟨f0, fd1, l0, b0, g1, c2⟩ := bits fd .un .un .un .un hf
  have s2 : t__law_drawn_2 (E fd S .un .un .un .un) = some (.nx, E fd1 S (O f0) .un .un .un) := dSet_o (i := 3) c2 (show 3 < 9 from by decide)
  -- perhaps all 0s
  obtain ⟨f1, fd2, l1, b1, g2, s3⟩ : ∃ f1 fd2, f1.length = 2 ^ n ∧ Bt f1 ∧ GF fd2 ∧ t__law_drawn_4 (E fd1 S (O f0) .un .un .un) = some (.nx, E fd2 S (O f1) .un .un .un) := by
    obtain ⟨v, fd', e, h1, h2⟩ := drw (i := 0) (da := dCons (gC (.int 4)) dNil) (ρ := E fd1 S (O f0) .un .un .un) (m := 4) rfl rfl rfl g1 (by decide) (by decide)
    have b := dBl_eq (den2_eq (g := gB gEq) e (d2 := gC (.int 1)) (l2 := .t (.int 1)) rfl (gEq_i _ _ _))
    by_cases q : (v : Int) = 1
    · rw [decide_eq_true q] at b
      have m1 := den2_eq (g := gMul) (d1 := dLst (dCons (gC (.int 0)) dNil)) (ρ := E fd' S (O f0) .un .un .un) (ρ1 := E fd' S (O f0) .un .un .un) (l1 := .own (.lst [.int 0])) rfl (half fd' (O f0) .un .un .un) (gMul_one _ _ (by omega) (by omega))
      rw [Int.toNat_natCast, rep_ii] at m1
      exact ⟨List.replicate (2 ^ n) 0, fd', by simp, fun x hx => .inl (List.eq_of_mem_replicate hx), h2, (dIfS_t b).trans (dSet_o (i := 3) m1 (show 3 < 9 from by decide))⟩
    · rw [decide_eq_false q] at b
      exact ⟨f0, fd', l0, b0, h2, (dIfS_f b).trans rfl⟩
  -- the other half
  let r0 : List Int := f1.map fun x => 1 - x
  have lr0 : r0.length = 2 ^ n := by simp [r0, l1]
  have br0 : Bt r0 := fun x hx => by
    obtain ⟨y, hy, rfl⟩ := List.mem_map.mp hx
    have := b1 y hy
    omega
  have s4 : t__law_drawn_5 (E fd2 S (O f1) .un .un .un) = some (.nx, E fd2 S (O f1) (O r0) .un .un) := by
    let H (x : L) : REnv := E__law_drawn (.own (.lst fd2)) (.t (.int ((n + 1 : Nat) : Int))) S .un .un .un x .un .un
    have c := compL_m (vs := [6]) (g := gNameT 6) (de := den2 gSub (gC (.int 1)) (gVar 6)) (ρ := H .un) T.int (fun x => T.int (1 - x)) f1 (fun x hx => ⟨H (.t (.int x)), rfl, _, H (.t (.int x)), rfl, rfl, rfl⟩)
    have e : f1.map (fun x => T.int (1 - x)) = ii r0 := by rw [ii, List.map_map]; rfl
    rw [e] at c
    exact dSet_o (i := 5) (compD_eq (src := iSeq (gVar 3)) (ho := some 3) (ρ1 := E fd2 S (O f1) .un .un .un) (xs := ii f1) rfl c (by simp only [List.length_map, line, lr0]; omega)) (show 5 < 9 from by decide)
  obtain ⟨wy, fd3, e5, _, g3⟩ := drw (i := 0) (da := dCons (gC (.int 6)) dNil) (ρ := E fd2 S (O f1) (O r0) .un .un) (m := 6) rfl rfl rfl g2 (by decide) (by decide)
  let Wy : L := .t (.int (wy : Nat))
  have s5 : t__law_drawn_6 (E fd2 S (O f1) (O r0) .un .un) = some (.nx, E fd3 S (O f1) (O r0) Wy .un) := dSet_t (i := 7) e5 (show 7 < 9 from by decide)
  obtain ⟨r1, fd4, lr1, br1, g4, s6⟩ : ∃ r1 fd4, r1.length = 2 ^ n ∧ Bt r1 ∧ GF fd4 ∧ t__law_drawn_8 (E fd3 S (O f1) (O r0) Wy .un) = some (.nx, E fd4 S (O f1) (O r1) Wy .un) := by
    have b := dBl_eq (den2_eq (g := gB gEq) (d1 := gVar 7) (d2 := gC (.int 1)) (ρ := E fd3 S (O f1) (O r0) Wy .un) (ρ1 := E fd3 S (O f1) (O r0) Wy .un) (ρ2 := E fd3 S (O f1) (O r0) Wy .un) (l1 := Wy) (l2 := .t (.int 1)) rfl rfl (gEq_i _ _ _))
    by_cases q : (wy : Int) = 1
    · rw [decide_eq_true q] at b
      obtain ⟨l, fd', h1, h2, h3, c⟩ := bits fd3 (O f1) (O r0) Wy .un g3
      exact ⟨l, fd', h1, h2, h3, (dIfS_t b).trans (dSet_o (i := 5) c (show 5 < 9 from by decide))⟩
    · rw [decide_eq_false q] at b
      exact ⟨r0, fd3, lr0, br0, g3, (dIfS_f b).trans rfl⟩
  obtain ⟨r2, fd5, a5, lr2, br2, g5, s7⟩ : ∃ r2 fd5 a5, r2.length = 2 ^ n ∧ Bt r2 ∧ GF fd5 ∧ t__law_drawn_11 (E fd4 S (O f1) (O r1) Wy .un) = some (.nx, E fd5 S (O f1) (O r2) Wy a5) := by
    have b := dBl_eq (den2_eq (g := gB gEq) (d1 := gVar 7) (d2 := gC (.int 2)) (ρ := E fd4 S (O f1) (O r1) Wy .un) (ρ1 := E fd4 S (O f1) (O r1) Wy .un) (ρ2 := E fd4 S (O f1) (O r1) Wy .un) (l1 := Wy) (l2 := .t (.int 2)) rfl rfl (gEq_i _ _ _))
    by_cases q : (wy : Int) = 2
    · rw [decide_eq_true q] at b
      obtain ⟨v, fd', e, h1, h2⟩ := drw (i := 0) (ρ := E fd4 S (O f1) (O r1) Wy .un) (m := ((2 ^ n : Nat) : Int)) rfl (dCons_eq (half fd4 (O f1) (O r1) Wy .un) rfl (da := dNil) (ts := []) rfl) rfl g4 (by omega) (by omega)
      have hv : v < 2 ^ n := by omega
      let V : L := .t (.int (v : Nat))
      let F : REnv := E fd' S (O f1) (O r1) Wy V
      have x1 := den2_eq (g := gSub) (d1 := gC (.int 1)) (ρ := F) (ρ1 := F) (l1 := .t (.int 1)) rfl (den2_eq (g := gIx) (d1 := gVar 5) (d2 := gVar 8) (ρ := F) (ρ1 := F) (ρ2 := F) (l1 := .ref 5) (l2 := V) rfl rfl (gIx_o _ (xs := ii r1) rfl (ix_nat (t := r1) (a := v) (by omega)))) (l := .t (.int (1 - r1.getD v 0))) rfl
      have y1 := gSubT_e (j := 5) (k := v) (di := gVar 8) (ρ := F) (xs := ii r1) (y := .int (1 - r1.getD v 0)) rfl rfl (by rw [ii_len]; omega)
      rw [iiset] at y1
      refine ⟨r1.set v (1 - r1.getD v 0), fd', V, by simp [lr1], fun x hx => ?_, h2, (dIfS_t b).trans ((dSeq_nx (d := t__law_drawn_9) (ρ' := F) (dSet_t (i := 8) e (show 8 < 9 from by decide))).trans (dAsg_eq x1 rfl y1))⟩
      rcases List.mem_or_eq_of_mem_set hx with hx | rfl
      · exact br1 x hx
      · have : r1.getD v 0 = r1[v] := by simp [show v < r1.length by omega]
        rw [this]
        have := br1 _ (List.getElem_mem (show v < r1.length by omega))
        omega
    · rw [decide_eq_false q] at b
      exact ⟨r1, fd4, .un, lr1, br1, g4, (dIfS_f b).trans rfl⟩
  let F : REnv := E fd5 S (O f1) (O r2) Wy a5
  have s8 : t__law_drawn_12 F = some (.ret (O (f1 ++ r2)), F) := by
    have := den2_eq (g := gAdd) (d1 := gVar 3) (d2 := gVar 5) (ρ := F) (ρ1 := F) (ρ2 := F) (l1 := .ref 3) (l2 := .ref 5) (l := .own (.lst (ii f1 ++ ii r2))) rfl rfl (by
      have hz : (ii f1).length + (ii r2).length ≤ line := by rw [ii_len, ii_len, l1, lr2]; simp only [line]; omega
      have q1 : F[3]? = some (.own (.lst (ii f1))) := rfl
      have q2 : F[5]? = some (.own (.lst (ii r2))) := rfl
      simp only [gAdd, gCat, L.lview, q1, q2, hz, if_true])
    rw [show ii f1 ++ ii r2 = ii (f1 ++ r2) by simp [ii]] at this
    exact dRet_eq this
  refine ⟨f1 ++ r2, fd5, ?_, ⟨by rw [List.length_append, l1, lr2, Nat.pow_succ]; omega, fun x hx => ?_⟩, g5⟩
  · have run : d__law_drawn (E fd .un .un .un .un .un) = some (.ret (O (f1 ++ r2)), F) := by
      rw [d__law_drawn, dSeq_nx s1, dSeq_nx s2, dSeq_nx s3, dSeq_nx s4, dSeq_nx s5, dSeq_nx s6, dSeq_nx s7]
      exact s8
    show bodyF 2 9 _ d__law_drawn fd [.int ((n + 1 : Nat) : Int)] = _
    have z : F[0]? = some (.own (.lst fd5)) := rfl
    have hd : d__law_drawn (L.own (.lst fd) :: ([T.int ((n + 1 : Nat) : Int)].map L.t ++ List.replicate (9 - 2) L.un)) = some (.ret (O (f1 ++ r2)), F) := run
    simp only [bodyF, hd, Option.bind_some, z]
    rfl
  · rcases List.mem_append.mp hx with hx | hx
    · exact b1 x hx
    · exact br2 x hx
end LK
namespace LK
open PySem LW
open L2 (atI ixN)

/-! ### likeness -/
theorem fal : ∀ q, f__law_alike q = fAlike q
  | 0 => rfl
  | q + 1 => by
    show bodyP 2 3 (d__law_alike (f__law_alike q)) = bodyP 2 3 (dAlike (fAlike q))
    rw [fal q]
    rfl
theorem al {x : T} (h : okT x = true) (hd : x.dep < 5) : f__law_alike 5 [x, x] = some (.t (.bl true)) := by rw [fal]; exact ev_alike 5 x h hd
theorem okTs_all {α : Type} (y : α → T) : ∀ as : List α, (∀ a ∈ as, okT (y a) = true) → okTs (as.map y) = true
  | [], _ => rfl
  | a :: as, h => by simp only [List.map_cons, okTs, h a List.mem_cons_self, okTs_all y as fun b hb => h b (List.mem_cons_of_mem _ hb), Bool.and_self]
theorem deps_all {α : Type} (y : α → T) (m : Nat) : ∀ as : List α, (∀ a ∈ as, (y a).dep ≤ m) → T.deps (as.map y) ≤ m
  | [], _ => Nat.zero_le _
  | a :: as, h => Nat.max_le.mpr ⟨h a List.mem_cons_self, deps_all y m as fun b hb => h b (List.mem_cons_of_mem _ hb)⟩
theorem ok_lst {α : Type} {y : α → T} {as : List α} (h : ∀ a ∈ as, okT (y a) = true) (hz : as.length < 10000) : okT (.lst (as.map y)) = true := by
  simp only [okT, okTs_all y as h, Bool.true_and, decide_eq_true_eq, List.length_map]; exact hz
theorem ok_tup (l : List Int) (hz : l.length < 10000) : okT (tupT l) = true := by
  simp only [tupT, okT, Bool.and_eq_true, decide_eq_true_eq, List.length_map]; exact ⟨okTs_all T.int l fun a _ => rfl, hz⟩
theorem dep_tup (l : List Int) : (tupT l).dep = 1 := by
  show T.deps (ii l) + 1 = 1
  rw [show T.deps (ii l) = 0 from deps_ii l]
theorem ok_st {n a : Nat} (hn : n < 100) : okT (stT n a) = true := ok_tup _ (by rw [st_len]; omega)
theorem ok_wT {n : Nat} {w : List Nat} (hn : n < 100) (hz : w.length < 10000) : okT (wT n w) = true ∧ (wT n w).dep ≤ 2 :=
  ⟨ok_lst (fun a _ => ok_st hn) hz, Nat.succ_le_succ (deps_all _ 1 w fun a _ => Nat.le_of_eq (dep_tup _))⟩
theorem ok_ii {l : List Int} (hz : l.length < 10000) : okT (.lst (ii l)) = true ∧ (T.lst (ii l)).dep < 5 :=
  ⟨ok_lst (fun a _ => rfl) hz, by show T.deps (ii l) + 1 < 5; rw [show T.deps (ii l) = 0 from deps_ii l]; decide⟩
theorem eqvAll_tups : ∀ ps : List (List Int), PyData.eqvAll (T.pys (ps.map tupT)) (T.pys (ps.map tupT)) = true
  | [] => rfl
  | p :: ps => by
    have h1 : PyData.eqv (tupT p).py (tupT p).py = true := (eqv_tup p p).trans (by simp)
    simp only [List.map_cons, T.pys, PyData.eqvAll, h1, eqvAll_tups ps, Bool.and_self]
theorem eqv_tups (ps : List (List Int)) : T.eqv (.lst (ps.map tupT)) (.lst (ps.map tupT)) = true := eqvAll_tups ps
theorem dNF {d : DenT} {ρ ρ' : REnv} (h : d ρ = some (true, ρ')) : dNot d ρ = some (false, ρ') := dNot_t h
/-! ### one round alone -/
theorem rS_one {f : Nat → Nat} {N : Nat} (h : ∀ b, b < N → b ∈ wk f N 0) : ∀ k, k ≤ N → 0 < k → rS f N k = ([wk f N 0], wk f N 0)
  | 0, _, h => absurd h (Nat.lt_irrefl _)
  | 1, _, _ => by simp [rS, rstep]
  | k + 2, hk, _ => by
    rw [rS_succ, rS_one h (k + 1) (by omega) (by omega), rstep, if_pos (h _ (by omega))]
theorem joinK_fix {n : Nat} {t : List Int} (g : Gd n t) (on : ∀ a b, a < 2 ^ (n + 1) → b < 2 ^ (n + 1) → On (nx t) a b) : ∀ k, k ≤ 2 ^ n → joinK n t k = t
  | 0, _ => rfl
  | k + 1, hk => by
    rw [joinK_succ, joinK_fix g on k (by omega), joinStep, if_neg]
    intro z
    have p := Nat.pow_succ 2 n
    exact (apart_on g (by omega)).mp z (on k (k + 2 ^ n) (by omega) (by omega))
theorem st_getD {n : Nat} {t : List Int} (h : Tb (n + 1) t) : ∀ j a, j ≤ n → (st (n + 1) a).getD j 0 = rb n (itF (nx t) j a)
  | 0, a, _ => by rw [st_head]; rfl
  | j + 1, a, hj => by
    rw [itF, ← st_getD h j (nx t a) (by omega), h.nx_st]
    have hl : j < ((st (n + 1) a).drop 1).length := by rw [List.length_drop, st_len]; omega
    rw [List.getD_eq_getElem?_getD, List.getD_eq_getElem?_getD, List.getElem?_append_left hl, List.getElem?_drop, Nat.add_comm 1 j]
theorem window {n m : Nat} {t : List Int} (h : Tb (n + 1) t) (back : itF (nx t) m 0 = 0) (hm : n + 1 ≤ m) {k : Nat} (hk : k < m) :
    ((((ws (nx t) 0 m).map (rb n) ++ (ws (nx t) 0 m).map (rb n)).drop k).take (n + 1)) = st (n + 1) (itF (nx t) k 0) := by
  have lw : ((ws (nx t) 0 m).map (rb n)).length = m := by rw [List.length_map, ws_len]
  refine ext_getD (by rw [List.length_take, List.length_drop, List.length_append, lw, st_len]; omega) fun j hj => ?_
  have hj2 : j < n + 1 := by rw [List.length_take] at hj; omega
  rw [st_getD h j _ (by omega), ← itF_add]
  have e1 : ((((ws (nx t) 0 m).map (rb n) ++ (ws (nx t) 0 m).map (rb n)).drop k).take (n + 1)).getD j 0 = ((ws (nx t) 0 m).map (rb n) ++ (ws (nx t) 0 m).map (rb n)).getD (k + j) 0 := by
    rw [List.getD_eq_getElem?_getD, List.getD_eq_getElem?_getD, List.getElem?_take, if_pos hj2, List.getElem?_drop]
  rw [e1]
  have g : ∀ i, i < m → ((ws (nx t) 0 m).map (rb n)).getD i 0 = rb n (itF (nx t) i 0) := fun i hi => by
    simp [List.getD_eq_getElem?_getD, ws, hi]
  by_cases q : k + j < m
  · rw [getD_app1 (by rw [lw]; exact q), g _ q, Nat.add_comm]
  · rw [getD_app2 (by rw [lw]; omega), lw, g _ (by omega), show j + k = (k + j - m) + m by omega, itF_add, back]
theorem ev_one_round {n : Nat} {t : List Int} (g : Gd n t) (hn : n < 6) (on : ∀ a b, a < 2 ^ (n + 1) → b < 2 ^ (n + 1) → On (nx t) a b) :
    f__law_one_round [.lst (ii t), .lst ((sts (n + 1)).map tupT), .int ((n + 1 : Nat) : Int)] = some (.t (.bl true)) := by
  have hp := pow_small hn
  have h := g.1
  have pos := Nat.two_pow_pos (n + 1)
  obtain ⟨m, w⟩ := wk_ex g.pm.lt pos
  obtain ⟨hm, perm⟩ := round_all g on pos w
  have back := g.pm.back pos w
  have le1 : n + 1 ≤ m := by rw [hm]; exact Nat.le_of_lt Nat.lt_two_pow_self
  have ltw : ∀ a ∈ ws (nx t) 0 m, a < 2 ^ (n + 1) := fun a ha => by simpa using perm.mem_iff.mp ha
  have mle : m ≤ 64 := by omega
  let SL : T := .lst ((sts (n + 1)).map tupT)
  let Wk0 : L := .own (.lst (ii (nI (ws (nx t) 0 m))))
  let R : List Int := (ws (nx t) 0 m).map (rb n)
  have lR : R.length = m := by simp only [R, List.length_map, ws_len]
  let E (wl x row s y : L) : REnv := E__law_one_round (.t (.lst (ii t))) (.t SL) (.t (.int ((n + 1 : Nat) : Int))) wl x row s y
  let E1 : REnv := E Wk0 .un .un .un .un
  have s1 : t__law_one_round_1 (E .un .un .un .un .un) = some (.nx, E1) := dSet_o (i := 3) (dCallP_eq (n := 2) (f := f__law_walk) (da := dCons (gVar 0) (dCons (gC (.int 0)) dNil)) (ρ := E .un .un .un .un .un) (ρ1 := E .un .un .un .un .un) rfl rfl (ev_law_walk (.inl rfl) h hn pos w) rfl) (show 3 < 8 from by decide)
  -- [states[at] for at in walk]
  have cmp : ∀ row, c__law_one_round_1 (E Wk0 .un row .un .un) = some (.own (.lst ((ws (nx t) 0 m).map (stT (n + 1)))), E Wk0 .un row .un .un) := fun row => by
    let H (x : L) : REnv := E .un x row .un .un
    have c := compL_m (vs := [4]) (g := gNameT 4) (de := den2 gIx (gVar 1) (gVar 4)) (ρ := H .un) (fun a : Nat => T.int (a : Nat)) (fun a => stT (n + 1) a) (ws (nx t) 0 m) (fun a ha => ⟨H (.t (.int (a : Nat))), rfl, _, H (.t (.int (a : Nat))), den2_eq (g := gIx) (d1 := gVar 1) (d2 := gVar 4) (ρ1 := H (.t (.int (a : Nat)))) (ρ2 := H (.t (.int (a : Nat)))) (l1 := .t SL) (l2 := .t (.int (a : Nat))) rfl rfl (gIx_l _ (sts_ix (ltw a ha))), rfl, rfl⟩)
    have e : (ws (nx t) 0 m).map (fun a : Nat => T.int (a : Nat)) = ii (nI (ws (nx t) 0 m)) := by rw [ii, nI, List.map_map]; rfl
    rw [e] at c
    exact compD_eq (src := iSeq (gVar 3)) (ho := some 3) (ρ1 := E Wk0 .un row .un .un) (xs := ii (nI (ws (nx t) 0 m))) rfl c (by simp only [List.length_map, ws_len, line]; omega)
  have rs : rS (nx t) (2 ^ (n + 1)) (2 ^ (n + 1)) = ([ws (nx t) 0 m], ws (nx t) 0 m) := by
    have := rS_one (f := nx t) (N := 2 ^ (n + 1)) (fun b hb => by rw [wk_eq w]; exact perm.mem_iff.mpr (by simpa using hb)) (2 ^ (n + 1)) (Nat.le_refl _) pos
    rwa [wk_eq w] at this
  have b1 : b__law_one_round_1 E1 = some (false, E1) := by
    have c1 := dCallP_eq (n := 1) (f := f_rounds_of_table) (da := dCons (gVar 0) dNil) (ρ := E1) (ρ1 := E1) rfl rfl (ev_rounds_of_table h hn) rfl
    rw [rs] at c1
    have d1 : dLst (dCons c__law_one_round_1 dNil) E1 = some (.own (.lst [wT (n + 1) (ws (nx t) 0 m)]), E1) := dLst_eq (dCons_eq (cmp .un) rfl (da := dNil) (ts := []) rfl) (show 1 ≤ 16777216 from by decide)
    have ok := ok_wT (n := n + 1) (w := ws (nx t) 0 m) (by omega) (by rw [ws_len]; omega)
    have a1 := al (x := .lst [wT (n + 1) (ws (nx t) 0 m)]) (ok_lst (y := fun x => x) (as := [wT (n + 1) (ws (nx t) 0 m)]) (fun a ha => by rw [List.mem_singleton.mp ha]; exact ok.1) (show 1 < 10000 from by decide)) (by
      show T.deps [wT (n + 1) (ws (nx t) 0 m)] + 1 < 5
      have : T.deps ([wT (n + 1) (ws (nx t) 0 m)].map fun x => x) ≤ 2 := deps_all (fun x => x) 2 _ fun a ha => by rw [List.mem_singleton.mp ha]; exact ok.2
      rw [List.map_id'] at this
      omega)
    have k1 := dNF (dTru_b (dCallP_eq (n := 2) (f := f__law_alike 5) (dCons_eq c1 rfl (dCons_eq d1 rfl (da := dNil) (ts := []) rfl)) rfl a1 rfl))
    have c2 := dCallP_eq (n := 1) (f := f_is_round_table) (da := dCons (gVar 0) dNil) (ρ := E1) (ρ1 := E1) rfl rfl (ev_is_round_table h.1 hn) rfl
    rw [(gdB_iff h).mpr g] at c2
    have k2 := dBl_eq (den2_eq (g := gB gIsNot) c2 (d2 := gC (.bl true)) (l2 := .t (.bl true)) (ρ2 := E1) rfl (l := .t (.bl false)) rfl)
    exact dOr_ff k1 k2
  let E2 (row : L) : REnv := E Wk0 .un row .un .un
  have s4 : t__law_one_round_4 E1 = some (.nx, E2 (.own (.lst (ii R)))) := dSet_o (i := 5) (dCallP_eq (n := 1) (f := f_row_of_table) (da := dCons (gVar 0) dNil) (ρ := E1) (ρ1 := E1) rfl rfl (ev_row_of_table h hn w) rfl) (show 5 < 8 from by decide)
  let E3 : REnv := E2 (.t (.lst (ii R)))
  have b2 : b__law_one_round_2 (E2 (.own (.lst (ii R)))) = some (false, E3) := by
    let H (x : L) : REnv := E .un x (.t (.lst (ii R))) .un .un
    have c := compL_m (vs := [4]) (g := gNameT 4) (de := den2 gIx (den2 gIx (gVar 1) (gVar 4)) (gC (.int 0))) (ρ := H .un) (fun a : Nat => T.int (a : Nat)) (fun a => T.int (rb n a)) (ws (nx t) 0 m) (fun a ha => ⟨H (.t (.int (a : Nat))), rfl, _, H (.t (.int (a : Nat))), den2_eq (g := gIx) (den2_eq (g := gIx) (d1 := gVar 1) (d2 := gVar 4) (ρ1 := H (.t (.int (a : Nat)))) (ρ2 := H (.t (.int (a : Nat)))) (l1 := .t SL) (l2 := .t (.int (a : Nat))) rfl rfl (gIx_l _ (sts_ix (ltw a ha)))) (d2 := gC (.int 0)) (l2 := .t (.int 0)) (ρ2 := H (.t (.int (a : Nat)))) rfl (gIx_t _ (st_ix0 n a)), rfl, rfl⟩)
    have e : (ws (nx t) 0 m).map (fun a : Nat => T.int (a : Nat)) = ii (nI (ws (nx t) 0 m)) := by rw [ii, nI, List.map_map]; rfl
    have e2 : (ws (nx t) 0 m).map (fun a => T.int (rb n a)) = ii R := by rw [ii, List.map_map]; rfl
    rw [e, e2] at c
    have c2 : c__law_one_round_2 E3 = some (.own (.lst (ii R)), E3) := compD_eq (src := iSeq (gVar 3)) (ho := some 3) (ρ1 := E3) (xs := ii (nI (ws (nx t) 0 m))) rfl c (by simp only [ii_len, lR, line]; omega)
    have ok := ok_ii (l := R) (by omega)
    have k1 := dNF (dTru_b (dCallP_eq (n := 2) (f := f__law_alike 5) (dCons_eq (d := dFrz 5) (ρ := E2 (.own (.lst (ii R)))) (l := .t (.lst (ii R))) (ρ1 := E3) rfl rfl (dCons_eq c2 rfl (da := dNil) (ts := []) rfl)) rfl (al ok.1 ok.2) rfl))
    have l1 : den1 gLen (gVar 5) E3 = some (.t (.int (m : Nat)), E3) := den1_eq (l1 := .t (.lst (ii R))) (ρ1 := E3) rfl (by rw [gLen_l, lR])
    have l2 : den1 gLen (gVar 1) E3 = some (.t (.int (m : Nat)), E3) := den1_eq (l1 := .t SL) (ρ1 := E3) rfl (by
      show gLen E3 (.t (.lst ((sts (n + 1)).map tupT))) = _
      simp only [gLen, L.lview, Option.map_some, List.length_map, sts_len, hm])
    have k2 := dBl_eq (den2_eq (g := gB gNe) l1 l2 (gNe_i _ _ _))
    rw [decide_eq_true rfl] at k2
    exact dOr_ff k1 k2
  -- the stretches
  have s7 : t__law_one_round_7 E3 = some (.nx, E Wk0 .un (.t (.lst (ii R))) (.own (.lst ((sts (n + 1)).map tupT))) .un) := by
    let H (x : L) : REnv := E Wk0 .un (.t (.lst (ii R))) .un x
    have c := compL_m (vs := [7]) (g := gNameT 7) (de := den1 gTuple (dSl (den2 gAdd (gVar 5) (gVar 5)) (dSome (gVar 7)) (dSome (den2 gAdd (gVar 7) (gVar 2))))) (ρ := H .un) (fun k : Nat => T.int (k : Nat)) (fun k => stT (n + 1) (itF (nx t) k 0)) (List.range m) (fun k hk => by
      have hk : k < m := by simpa using hk
      let F : REnv := H (.t (.int (k : Nat)))
      have a1 := den2_eq (g := gAdd) (d1 := gVar 5) (d2 := gVar 5) (ρ := F) (ρ1 := F) (ρ2 := F) (l1 := .t (.lst (ii R))) (l2 := .t (.lst (ii R))) (l := .own (.lst (ii R ++ ii R))) rfl rfl (by
        have hz : (ii R).length + (ii R).length ≤ line := by rw [ii_len, lR]; simp only [line]; omega
        simp only [gAdd, gCat, L.lview, hz, if_true])
      have a2 := dSl_eq (dl := dSome (gVar 7)) (dh := dSome (den2 gAdd (gVar 7) (gVar 2))) (ρ2 := F) (ρ3 := F) (lo := some (k : Nat)) (hi := some ((k + (n + 1) : Nat) : Int)) a1 rfl rfl (gSl_n _)
      rw [cut_lh _ _ _ (by rw [List.length_append, ii_len, lR]; omega) (by rw [List.length_append, ii_len, lR]; omega), show k + (n + 1) - k = n + 1 by omega] at a2
      have e : ((ii R ++ ii R).drop k).take (n + 1) = ii (st (n + 1) (itF (nx t) k 0)) := by
        have wn := window h back le1 hk
        change ((R ++ R).drop k).take (n + 1) = _ at wn
        rw [← wn]
        simp only [ii, List.map_append, List.map_drop, List.map_take]
      rw [e] at a2
      exact ⟨F, rfl, _, F, den1_eq (g := gTuple) a2 (l := .t (stT (n + 1) (itF (nx t) k 0))) rfl, rfl, rfl⟩)
    have rng : iRange1 (dCons (den1 gLen (gVar 5)) dNil) (H .un) = some ((List.range m).map fun k => T.int (k : Nat), none, H .un) := iRange1_eq (n := m) (den1_eq (l1 := .t (.lst (ii R))) (ρ1 := H .un) rfl (by rw [gLen_l, lR])) (by omega)
    have c3 : c__law_one_round_3 E3 = some (.own (.lst (((ws (nx t) 0 m).map (st (n + 1))).map tupT)), E3) := by
      have e : (List.range m).map (fun k => stT (n + 1) (itF (nx t) k 0)) = ((ws (nx t) 0 m).map (st (n + 1))).map tupT := by rw [ws, List.map_map, List.map_map]; rfl
      rw [e] at c
      exact compD_eq (ho := none) (ρ1 := H .un) rng c (by simp only [List.length_map, ws_len, line]; omega)
    have srt : sortL ((ws (nx t) 0 m).map (st (n + 1))) = sts (n + 1) := leL_unique ((sortL_perm _).trans (perm.map _)) (sortL_sorted _) (sts_sorted _)
    have ne : ∀ p ∈ (ws (nx t) 0 m).map (st (n + 1)), p ≠ [] := fun p hp z => by
      obtain ⟨a, _, rfl⟩ := List.mem_map.mp hp
      have := st_len (n + 1) a
      rw [z] at this
      simp at this
    have sv : gSortTT E3 (.own (.lst (((ws (nx t) 0 m).map (st (n + 1))).map tupT))) = some (.own (.lst ((sts (n + 1)).map tupT))) := by
      simp only [gSortTT, L.lview, Option.bind_some, asTups_map _ ne, Option.map_some, srt]
    exact dSet_o (i := 6) (den1_eq c3 sv) (show 6 < 8 from by decide)
  let E4 : REnv := E Wk0 .un (.t (.lst (ii R))) (.own (.lst ((sts (n + 1)).map tupT))) .un
  have s8 : t__law_one_round_8 E4 = some (.ret (.t (.bl true)), E4) := by
    have q1 := den2_eq (g := gB gEq) (d1 := gVar 6) (d2 := gVar 1) (ρ := E4) (ρ1 := E4) (ρ2 := E4) (l1 := .ref 6) (l2 := .t SL) (l := .t (.bl true)) rfl rfl (by
      have z : E4[6]? = some (.own (.lst ((sts (n + 1)).map tupT))) := rfl
      have zz : eqOk (.lst ((sts (n + 1)).map tupT)) SL = true := by simp only [eqOk, SL, shp_tups, Bool.and_self, Bool.or_true]
      show (gEq E4 (.ref 6) (.t SL)).map _ = _
      simp only [gEq, L.view, z, zz, if_true]
      rw [show T.eqv (.lst ((sts (n + 1)).map tupT)) SL = true from eqv_tups _]
      rfl)
    have c1 := dCallP_eq (n := 1) (f := f_joined_table) (da := dCons (gVar 0) dNil) (ρ := E4) (ρ1 := E4) rfl rfl (ev_joined_table g hn) rfl
    rw [joinK_fix g on _ (Nat.le_refl _)] at c1
    have ok := ok_ii (l := t) (by rw [h.1]; omega)
    have c2 := dCallP_eq (n := 2) (f := f__law_alike 5) (dCons_eq c1 rfl (dCons_eq (d := gVar 0) (ρ1 := E4) (l := .t (.lst (ii t))) rfl rfl (da := dNil) (ts := []) rfl)) rfl (al ok.1 ok.2) rfl
    refine dRet_eq (l := .t (.bl true)) ?_
    simp only [dAndV, q1, Option.bind_some, L.asBl, if_true]
    exact c2
  refine bodyP_t (ρ' := E4) rfl ?_
  show d__law_one_round (E .un .un .un .un .un) = _
  rw [d__law_one_round, dSeq_nx s1, dSeq_nx (show t__law_one_round_3 E1 = some (.nx, E1) from (dIfS_f b1).trans rfl), dSeq_nx s4, dSeq_nx (show t__law_one_round_6 (E2 (.own (.lst (ii R)))) = some (.nx, E3) from (dIfS_f b2).trans rfl), dSeq_nx s7]
  exact s8
end LK
namespace LK
open PySem LW
open L2 (atI ixN)

theorem rS_mem {f : Nat → Nat} {N : Nat} (hf : ∀ a, a < N → f a < N) : ∀ k, k ≤ N → ∀ w ∈ (rS f N k).1, w.length ≤ N ∧ ∀ x ∈ w, x < N
  | 0, _, w, hw => by cases hw
  | k + 1, hk, w, hw => by
    rw [rS_succ, rstep] at hw
    split at hw
    · exact rS_mem hf k (by omega) w hw
    · rcases List.mem_append.mp hw with hw | hw
      · exact rS_mem hf k (by omega) w hw
      · rw [List.mem_singleton.mp hw]; exact wk_len hf (by omega)
theorem callF {i : Nat} {g : List T → List T → Option (L × List T)} {da : DenA} {ρ ρ1 : REnv} {fd fd' : List T} {x : T} {r : L} (ho : isOwnL ρ i = true) (ha : da ρ = some ([x], ρ1)) (h1 : ρ1[i]? = some (.own (.lst fd))) (e : g fd [x] = some (r, fd')) (hr : nor r = some r) :
    dCallF 2 i g da ρ = some (r, ρ1.set i (.own (.lst fd'))) := by
  simp only [dCallF, ho, ha, h1, e, hr, if_true, Option.bind_some, List.length_cons, List.length_nil, Nat.zero_add, Nat.reduceAdd, Option.map_some]
theorem filt_all {α : Type} (p : α → Bool) : ∀ as : List α, decide ((as.filter p).length = 0) = as.all fun a => !p a
  | [] => rfl
  | a :: as => by
    rw [List.filter_cons, List.all_cons, ← filt_all p as]
    cases p a <;> simp
/-- the slots of law -/
def S (ns : List Int) (fd : List T) (n : Nat) (st tb kept at_ half good size due joined : L) : REnv := E_law (.t (.lkl (ii ns))) (.own (.lst fd)) (.t (.int (n : Nat))) st tb kept at_ .un half good size due .un joined
theorem lw_n {ns : List Int} {fd : List T} (hf : GF fd) : ∃ n fd', n < 6 ∧ GF fd' ∧ ∀ rest : DenS, dSeq t_law_2 (dSeq t_law_4 rest) (E_law (.t (.lkl (ii ns))) (.own (.lst fd)) .un .un .un .un .un .un .un .un .un .un .un .un) = rest (S ns fd' (n + 1) .un .un .un .un .un .un .un .un .un) := by
  obtain ⟨v, fd1, e1, v1, g1⟩ := drw (i := 1) (da := dCons (gC (.int 4)) dNil) (ρ := E_law (.t (.lkl (ii ns))) (.own (.lst fd)) .un .un .un .un .un .un .un .un .un .un .un .un) (m := 4) rfl rfl rfl hf (by decide) (by decide)
  have s2 : t_law_2 (E_law (.t (.lkl (ii ns))) (.own (.lst fd)) .un .un .un .un .un .un .un .un .un .un .un .un) = some (.nx, S ns fd1 (v + 1) .un .un .un .un .un .un .un .un .un) := by
    have := dSet_t (i := 2) (den2_eq (g := gAdd) (d1 := gC (.int 1)) (l1 := .t (.int 1)) (ρ1 := E_law (.t (.lkl (ii ns))) (.own (.lst fd)) .un .un .un .un .un .un .un .un .un .un .un .un) rfl e1 (gAdd_i _ _ _)) (show 2 < 14 from by decide)
    rw [show (1 : Int) + (v : Nat) = ((v + 1 : Nat) : Int) by omega] at this
    exact this
  obtain ⟨u, fd2, e2, u1, g2⟩ := drw (i := 1) (da := dCons (gC (.int 8)) dNil) (ρ := S ns fd1 (v + 1) .un .un .un .un .un .un .un .un .un) (m := 8) rfl rfl rfl g1 (by decide) (by decide)
  have b := dBl_eq (den2_eq (g := gB gEq) e2 (d2 := gC (.int 1)) (l2 := .t (.int 1)) rfl (gEq_i _ _ _))
  by_cases q : (u : Int) = 1
  · rw [decide_eq_true q] at b
    obtain ⟨x, fd3, e3, x1, g3⟩ := drw (i := 1) (da := dCons (gC (.int 2)) dNil) (ρ := S ns fd2 (v + 1) .un .un .un .un .un .un .un .un .un) (m := 2) rfl rfl rfl g2 (by decide) (by decide)
    have s3 : t_law_3 (S ns fd2 (v + 1) .un .un .un .un .un .un .un .un .un) = some (.nx, S ns fd3 (x + 4 + 1) .un .un .un .un .un .un .un .un .un) := by
      have := dSet_t (i := 2) (den2_eq (g := gAdd) (d1 := gC (.int 5)) (l1 := .t (.int 5)) (ρ1 := S ns fd2 (v + 1) .un .un .un .un .un .un .un .un .un) rfl e3 (gAdd_i _ _ _)) (show 2 < 14 from by decide)
      rw [show (5 : Int) + (x : Nat) = ((x + 4 + 1 : Nat) : Int) by omega] at this
      exact this
    refine ⟨x + 4, fd3, by omega, g3, fun rest => ?_⟩
    rw [dSeq_nx s2]
    exact dSeq_nx (d := t_law_4) ((dIfS_t (c := b_law_1) (d := t_law_3) (d' := dNx) b).trans s3)
  · rw [decide_eq_false q] at b
    refine ⟨v, fd2, by omega, g2, fun rest => ?_⟩
    rw [dSeq_nx s2]
    exact dSeq_nx (d := t_law_4) ((dIfS_f (c := b_law_1) (d := t_law_3) (d' := dNx) b).trans rfl)
section
variable {ns : List Int} {fd : List T} {n a : Nat} {t : List Int}
def SLo (n : Nat) : L := .own (.lst ((sts (n + 1)).map tupT))
def TO (t : List Int) : L := .own (.lst (ii t))
def TT (t : List Int) : L := .t (.lst (ii t))
/-- states[own] for own in a walk of the law's, the table a tree -/
theorem lw_cmp {half good size due joined kept at_ : L} {w : List Nat} (hw : ∀ x ∈ w, x < 2 ^ (n + 1)) :
    compL [7] (gNameT 7) dYes (den2 gIx (gVar 3) (gVar 7)) (ii (nI w)) (S ns fd (n + 1) (SLo n) (TT t) kept at_ half good size due joined) = some (w.map (stT (n + 1)), S ns fd (n + 1) (SLo n) (TT t) kept at_ half good size due joined) := by
  have e : w.map (fun a : Nat => T.int (a : Nat)) = ii (nI w) := by rw [ii, nI, List.map_map]; rfl
  rw [← e]
  let H (x : L) : REnv := E_law (.t (.lkl (ii ns))) (.own (.lst fd)) (.t (.int ((n + 1 : Nat) : Int))) (SLo n) (TT t) kept at_ x half good size due .un joined
  exact compL_m (vs := [7]) (ρ := H .un) (fun a : Nat => T.int (a : Nat)) (stT (n + 1)) w (fun a ha => ⟨H (.t (.int (a : Nat))), rfl, _, H (.t (.int (a : Nat))), den2_eq (g := gIx) (d1 := gVar 3) (d2 := gVar 7) (ρ1 := H (.t (.int (a : Nat)))) (ρ2 := H (.t (.int (a : Nat)))) (l1 := .ref 3) (l2 := .t (.int (a : Nat))) rfl rfl (gIx_o _ (xs := (sts (n + 1)).map tupT) rfl (sts_ix (hw a ha))), rfl, rfl⟩)
theorem lw_b2 (h : Tb (n + 1) t) (hn : n < 6) (ha : a < 2 ^ (n + 1)) : b_law_2 (S ns fd (n + 1) (SLo n) (TO t) (TO t) (.t (.int (a : Nat))) .un .un .un .un .un) = some (false, S ns fd (n + 1) (SLo n) (TT t) (TO t) (.t (.int (a : Nat))) .un .un .un .un .un) := by
  have hp := pow_small hn
  obtain ⟨m, w⟩ := wk_ex (f := nx t) (fun a _ => h.nx_lt a) ha
  have mle := w.le
  let G : REnv := S ns fd (n + 1) (SLo n) (TT t) (TO t) (.t (.int (a : Nat))) .un .un .un .un .un
  have i1 := den2_eq (g := gIx) (d1 := gVar 3) (d2 := gVar 6) (ρ := G) (ρ1 := G) (ρ2 := G) (l1 := .ref 3) (l2 := .t (.int (a : Nat))) rfl rfl (gIx_o _ (xs := (sts (n + 1)).map tupT) rfl (sts_ix ha))
  have c1 := dCallP_eq (n := 2) (f := f_table_states) (dCons_eq (d := dFrz 4) (ρ := S ns fd (n + 1) (SLo n) (TO t) (TO t) (.t (.int (a : Nat))) .un .un .un .un .un) (l := TT t) (ρ1 := G) rfl rfl (dCons_eq i1 rfl (da := dNil) (ts := []) rfl)) rfl (ev_table_states h hn ha w) rfl
  have c2 := dCallP_eq (n := 2) (f := f__law_walk) (da := dCons (dFrz 4) (dCons (gVar 6) dNil)) (ρ := G) (ρ1 := G) rfl rfl (ev_law_walk (.inl rfl) h hn ha w) rfl
  have src : iSeq (dCallP 2 f__law_walk (dCons (dFrz 4) (dCons (gVar 6) dNil))) G = some (ii (nI (ws (nx t) a m)), none, G) := by rw [iSeq, c2]; rfl
  have ltw : ∀ x ∈ ws (nx t) a m, x < 2 ^ (n + 1) := fun x hx => by
    obtain ⟨j, _, rfl⟩ := mem_ws.mp hx
    exact itF_lt (fun a _ => h.nx_lt a) j a ha
  have c3 : c_law_1 G = some (.own (.lst ((ws (nx t) a m).map (stT (n + 1)))), G) := compD_eq (ho := none) (ρ1 := G) src (lw_cmp (t := t) ltw) (by simp only [List.length_map, ws_len, line]; omega)
  have ok := ok_wT (n := n + 1) (w := ws (nx t) a m) (by omega) (by rw [ws_len]; omega)
  exact dNF (dTru_b (dCallP_eq (n := 2) (f := f__law_alike 5) (dCons_eq c1 rfl (dCons_eq c3 rfl (da := dNil) (ts := []) rfl)) rfl (al (x := wT (n + 1) (ws (nx t) a m)) ok.1 (Nat.lt_of_le_of_lt ok.2 (by decide))) rfl))
/-- the slots from there on -/
def S3 (ns : List Int) (fd : List T) (n : Nat) (t : List Int) (a : Nat) (good size due joined : L) : REnv := S ns fd (n + 1) (SLo n) (TT t) (TO t) (.t (.int (a : Nat))) (.t (.int ((2 ^ n : Nat) : Int))) good size due joined
theorem lw_good (h : Tb (n + 1) t) (hn : n < 6) : t_law_12 (S3 ns fd n t a .un .un .un .un) = some (.nx, S3 ns fd n t a (.t (.bl (gdB n t))) .un .un .un) := by
  have hp := pow_small hn
  have hl := h.1
  rw [Nat.pow_succ] at hp hl
  let H (x : L) : REnv := E_law (.t (.lkl (ii ns))) (.own (.lst fd)) (.t (.int ((n + 1 : Nat) : Int))) (SLo n) (TT t) (TO t) (.t (.int (a : Nat))) x (.t (.int ((2 ^ n : Nat) : Int))) .un .un .un .un .un
  let p : Nat → Bool := fun i => decide (t.getD i 0 = t.getD (i + 2 ^ n) 0)
  have c := compL_fm (vs := [7]) (g := gNameT 7) (dt := dBl (den2 (gB gEq) (den2 gIx (gVar 4) (gVar 7)) (den2 gIx (gVar 4) (den2 gAdd (gVar 7) (gVar 8))))) (de := gVar 7) (ρ := H .un) (fun i : Nat => T.int (i : Nat)) p (fun i : Nat => T.int (i : Nat)) (List.range (2 ^ n)) (fun i hi => by
    have hi : i < 2 ^ n := by simpa using hi
    let F : REnv := H (.t (.int (i : Nat)))
    have i1 := den2_eq (g := gIx) (d1 := gVar 4) (d2 := gVar 7) (ρ := F) (ρ1 := F) (ρ2 := F) (l1 := TT t) (l2 := .t (.int (i : Nat))) rfl rfl (gIx_l _ (ix_nat (t := t) (a := i) (by omega)))
    have i2 := den2_eq (g := gIx) (d1 := gVar 4) (ρ := F) (ρ1 := F) (l1 := TT t) rfl (den2_eq (g := gAdd) (d1 := gVar 7) (d2 := gVar 8) (ρ := F) (ρ1 := F) (ρ2 := F) (l1 := .t (.int (i : Nat))) (l2 := .t (.int ((2 ^ n : Nat) : Int))) rfl rfl (gAdd_i _ _ _)) (gIx_l _ (ix_nat (t := t) (a := i + 2 ^ n) (by omega)))
    exact ⟨F, F, rfl, dBl_eq (den2_eq (g := gB gEq) i1 i2 (gEq_i _ _ _)), fun _ => ⟨.t (.int (i : Nat)), F, rfl, rfl, rfl⟩, fun _ => rfl⟩)
  have lf : ((List.range (2 ^ n)).filter p).length ≤ 2 ^ n := by have := List.length_filter_le p (List.range (2 ^ n)); simpa using this
  have c2 : c_law_2 (S3 ns fd n t a .un .un .un .un) = some (.own (.lst (((List.range (2 ^ n)).filter p).map fun i : Nat => T.int (i : Nat))), S3 ns fd n t a .un .un .un .un) :=
    compD_eq (ho := none) (ρ1 := H .un) (iRange1_eq (n := 2 ^ n) rfl (by omega)) c (by simp only [List.length_map, line]; omega)
  have e := den2_eq (g := gB gEq) (den1_eq c2 (gLen_n _ _)) (d2 := gC (.int 0)) (l2 := .t (.int 0)) (ρ2 := S3 ns fd n t a .un .un .un .un) rfl (gEq_i _ _ _)
  have eg : decide ((((((List.range (2 ^ n)).filter p).map fun i : Nat => T.int (i : Nat)).length : Nat) : Int) = 0) = gdB n t := by
    rw [List.length_map, gdB, ← filt_all p]
    by_cases q : ((List.range (2 ^ n)).filter p).length = 0
    · rw [decide_eq_true q]; exact decide_eq_true (by omega)
    · rw [decide_eq_false q]; exact decide_eq_false (by omega)
  rw [eg] at e
  exact dSet_t (i := 9) e (show 9 < 14 from by decide)
theorem gNe_same {ρ : REnv} {l1 l2 : L} {x : List Int} (h1 : l1.view ρ = some (.lst (ii x))) (h2 : l2.view ρ = some (.lst (ii x))) : gB gNe ρ l1 l2 = some (.t (.bl false)) := by
  simp only [gB, gNe, gEq, h1, h2, eqOk_lst, eqv_lst, if_true, Option.map_some, decide_true, Bool.not_true]
theorem lw_b3 {good size due joined : L} (h : Tb (n + 1) t) (hn : n < 6) (hg : good = .t (.bl (gdB n t))) : b_law_3 (S3 ns fd n t a good size due joined) = some (false, S3 ns fd n t a good size due joined) := by
  let G : REnv := S3 ns fd n t a good size due joined
  subst hg
  have c1 := dCallP_eq (n := 1) (f := f_is_round_table) (da := dCons (dFrz 4) dNil) (ρ := G) (ρ1 := G) rfl rfl (ev_is_round_table h.1 hn) rfl
  have a1 : f__law_alike 5 [.bl (gdB n t), .bl (gdB n t)] = some (.t (.bl true)) := al rfl (show 0 < 5 from by decide)
  have k1 := dNF (dTru_b (dCallP_eq (n := 2) (f := f__law_alike 5) (dCons_eq c1 rfl (dCons_eq (d := gVar 9) (ρ1 := G) (l := .t (.bl (gdB n t))) rfl rfl (da := dNil) (ts := []) rfl)) rfl a1 rfl))
  have k2 := dBl_eq (den2_eq (g := gB gNe) (d1 := gVar 4) (d2 := gVar 5) (ρ := G) (ρ1 := G) (ρ2 := G) (l1 := TT t) (l2 := .ref 5) rfl rfl (gNe_same (x := t) rfl rfl))
  exact dOr_ff k1 k2
theorem lw_size (k : Nat) (hk : 0 < k) (hk2 : k < 10) {d : Den} (hd : d = den2 gAdd (gC (.int 1)) (dCallF 2 1 g__law_draw (dCons (gC (.int (k : Nat))) dNil))) {good size due joined : L} (hf : GF fd) :
    ∃ s fd', 1 ≤ s ∧ s ≤ k ∧ GF fd' ∧ dSet 10 d (S3 ns fd n t a good size due joined) = some (.nx, S3 ns fd' n t a good (.t (.int (s : Nat))) due joined) := by
  subst hd
  obtain ⟨v, fd1, e1, v1, g1⟩ := drw (i := 1) (da := dCons (gC (.int (k : Nat))) dNil) (ρ := S3 ns fd n t a good size due joined) (m := (k : Nat)) rfl rfl rfl hf (by omega) (by omega)
  refine ⟨v + 1, fd1, by omega, by omega, g1, ?_⟩
  have := dSet_t (i := 10) (den2_eq (g := gAdd) (d1 := gC (.int 1)) (l1 := .t (.int 1)) (ρ1 := S3 ns fd n t a good size due joined) rfl e1 (gAdd_i _ _ _)) (show 10 < 14 from by decide)
  rw [show (1 : Int) + (v : Nat) = ((v + 1 : Nat) : Int) by omega] at this
  exact this
theorem al_int (i : Int) : f__law_alike 5 [.int i, .int i] = some (.t (.bl true)) := al rfl (show 0 < 5 from by decide)
theorem lw_b4 {s : Nat} {good due joined : L} (h1 : 1 ≤ s) (h2 : s ≤ 3) : b_law_4 (S3 ns fd n t a good (.t (.int (s : Nat))) due joined) = some (false, S3 ns fd n t a good (.t (.int (s : Nat))) due joined) := by
  let G : REnv := S3 ns fd n t a good (.t (.int (s : Nat))) due joined
  have c1 := dCallP_eq (n := 1) (f := f_count_greatest_rounds) (da := dCons (dFrz 10) dNil) (ρ := G) (ρ1 := G) rfl rfl (ev_count s h1 (by omega)) rfl
  have c2 := dCallP_eq (n := 1) (f := f__law_counted) (da := dCons (dFrz 10) dNil) (ρ := G) (ρ1 := G) rfl rfl (ev_counted s h1 h2) rfl
  exact dNF (dTru_b (dCallP_eq (n := 2) (f := f__law_alike 5) (dCons_eq c1 rfl (dCons_eq c2 rfl (da := dNil) (ts := []) rfl)) rfl (al_int _) rfl))
theorem lw_b5 {s : Nat} {good due joined : L} (h1 : 1 ≤ s) (h2 : s ≤ 6) : b_law_5 (S3 ns fd n t a good (.t (.int (s : Nat))) due joined) = some (false, S3 ns fd n t a good (.t (.int (s : Nat))) due joined) := by
  let G : REnv := S3 ns fd n t a good (.t (.int (s : Nat))) due joined
  have c1 := dCallP_eq (n := 1) (f := f_count_greatest_rounds) (da := dCons (dFrz 10) dNil) (ρ := G) (ρ1 := G) rfl rfl (ev_count s h1 (by omega)) rfl
  have c2 : den2 gIx (dLst (dCons (gC (.int 1)) (dCons (gC (.int 1)) (dCons (gC (.int 2)) (dCons (gC (.int 16)) (dCons (gC (.int 2048)) (dCons (gC (.int 67108864)) dNil))))))) (den2 gSub (gVar 10) (gC (.int 1))) G = some (.t (.int ((2 ^ (2 ^ (s - 1) - s) : Nat) : Int)), G) := by
    have e1 : den2 gSub (gVar 10) (gC (.int 1)) G = some (.t (.int ((s - 1 : Nat) : Int)), G) := by
      rw [show ((s - 1 : Nat) : Int) = (s : Int) - 1 by omega]
      rfl
    refine den2_eq (l1 := .own (.lst (ii [1, 1, 2, 16, 2048, 67108864]))) (ρ1 := G) rfl e1 (gIx_n _ ?_)
    rw [ix_nat (t := [1, 1, 2, 16, 2048, 67108864]) (a := s - 1) (show s - 1 < 6 by omega)]
    have : s = 1 ∨ s = 2 ∨ s = 3 ∨ s = 4 ∨ s = 5 ∨ s = 6 := by omega
    rcases this with rfl | rfl | rfl | rfl | rfl | rfl <;> rfl
  exact dNF (dTru_b (dCallP_eq (n := 2) (f := f__law_alike 5) (dCons_eq c1 rfl (dCons_eq c2 rfl (da := dNil) (ts := []) rfl)) rfl (al_int _) rfl))
/-! ### good tables -/
def RT (n : Nat) (t : List Int) : List T := (rS (nx t) (2 ^ (n + 1)) (2 ^ (n + 1))).1.map (wT (n + 1))
theorem lw_due {good size joined : L} (h : Tb (n + 1) t) (hn : n < 6) : t_law_23 (S3 ns fd n t a good size .un joined) = some (.nx, S3 ns fd n t a good size (.own (.lst (RT n t))) joined) := by
  have hp := pow_small hn
  have hf : ∀ a, a < 2 ^ (n + 1) → nx t a < 2 ^ (n + 1) := fun a _ => h.nx_lt a
  have rl := (rS_len hf _ (Nat.le_refl _)).2.1
  let G : REnv := S3 ns fd n t a good size .un joined
  have c1 := dCallP_eq (n := 1) (f := f__law_rounds) (da := dCons (dFrz 4) dNil) (ρ := G) (ρ1 := G) rfl rfl (ev_law_rounds h hn) rfl
  have src : iSeq (dCallP 1 f__law_rounds (dCons (dFrz 4) dNil)) G = some ((rS (nx t) (2 ^ (n + 1)) (2 ^ (n + 1))).1.map lwT, none, G) := by rw [iSeq, c1]; rfl
  let H (x : L) : REnv := E_law (.t (.lkl (ii ns))) (.own (.lst fd)) (.t (.int ((n + 1 : Nat) : Int))) (SLo n) (TT t) (TO t) (.t (.int (a : Nat))) .un (.t (.int ((2 ^ n : Nat) : Int))) good size .un x joined
  have c2 := compL_m (vs := [12]) (g := gNameT 12) (de := c_law_3) (ρ := H .un) lwT (wT (n + 1)) (rS (nx t) (2 ^ (n + 1)) (2 ^ (n + 1))).1 (fun w hw => by
    obtain ⟨w1, w2⟩ := rS_mem hf _ (Nat.le_refl _) w hw
    let F : REnv := H (.t (lwT w))
    let K (x : L) : REnv := E_law (.t (.lkl (ii ns))) (.own (.lst fd)) (.t (.int ((n + 1 : Nat) : Int))) (SLo n) (TT t) (TO t) (.t (.int (a : Nat))) x (.t (.int ((2 ^ n : Nat) : Int))) good size .un (.t (lwT w)) joined
    have c := compL_m (vs := [7]) (g := gNameT 7) (de := den2 gIx (gVar 3) (gVar 7)) (ρ := K .un) (fun a : Nat => T.int (a : Nat)) (stT (n + 1)) w (fun a ha => ⟨K (.t (.int (a : Nat))), rfl, _, K (.t (.int (a : Nat))), den2_eq (g := gIx) (d1 := gVar 3) (d2 := gVar 7) (ρ1 := K (.t (.int (a : Nat)))) (ρ2 := K (.t (.int (a : Nat)))) (l1 := .ref 3) (l2 := .t (.int (a : Nat))) rfl rfl (gIx_o _ (xs := (sts (n + 1)).map tupT) rfl (sts_ix (w2 a ha))), rfl, rfl⟩)
    have e : w.map (fun a : Nat => T.int (a : Nat)) = ii (nI w) := by rw [ii, nI, List.map_map]; rfl
    rw [e] at c
    have c3 : c_law_3 F = some (.own (.lst (w.map (stT (n + 1)))), F) := compD_eq (src := iSeq (gVar 12)) (ho := none) (ρ1 := F) (xs := ii (nI w)) rfl c (by simp only [List.length_map, line]; omega)
    exact ⟨F, rfl, _, F, c3, rfl, rfl⟩)
  exact dSet_o (i := 11) (compD_eq (ho := none) (ρ1 := G) src c2 (by simp only [List.length_map, line]; omega)) (show 11 < 14 from by decide)
theorem lw_b7 {good size joined : L} (h : Tb (n + 1) t) (hn : n < 6) : b_law_7 (S3 ns fd n t a good size (.own (.lst (RT n t))) joined) = some (false, S3 ns fd n t a good size (.t (.lst (RT n t))) joined) := by
  have hp := pow_small hn
  have hf : ∀ a, a < 2 ^ (n + 1) → nx t a < 2 ^ (n + 1) := fun a _ => h.nx_lt a
  have rl := (rS_len hf _ (Nat.le_refl _)).2.1
  let G : REnv := S3 ns fd n t a good size (.own (.lst (RT n t))) joined
  let F : REnv := S3 ns fd n t a good size (.t (.lst (RT n t))) joined
  have c1 := dCallP_eq (n := 1) (f := f_rounds_of_table) (da := dCons (dFrz 4) dNil) (ρ := G) (ρ1 := G) rfl rfl (ev_rounds_of_table h hn) rfl
  have okw : ∀ w ∈ (rS (nx t) (2 ^ (n + 1)) (2 ^ (n + 1))).1, okT (wT (n + 1) w) = true ∧ (wT (n + 1) w).dep ≤ 2 := fun w hw => ok_wT (by omega) (by have := (rS_mem hf _ (Nat.le_refl _) w hw).1; omega)
  have a1 := al (x := .lst (RT n t)) (ok_lst (fun w hw => (okw w hw).1) (by omega)) (by
    show T.deps (RT n t) + 1 < 5
    have := deps_all (wT (n + 1)) 2 (rS (nx t) (2 ^ (n + 1)) (2 ^ (n + 1))).1 fun w hw => (okw w hw).2
    unfold RT
    omega)
  exact dNF (dTru_b (dCallP_eq (n := 2) (f := f__law_alike 5) (dCons_eq c1 rfl (dCons_eq (d := dFrz 11) (ρ1 := F) (l := .t (.lst (RT n t))) rfl rfl (da := dNil) (ts := []) rfl)) rfl a1 rfl))
theorem lw_b8 {good size due joined : L} (h : Tb (n + 1) t) (hn : n < 6) : b_law_8 (S3 ns fd n t a good size due joined) = some (false, S3 ns fd n t a good size due joined) := by
  have hp := pow_small hn
  have pos := Nat.two_pow_pos (n + 1)
  obtain ⟨m, w⟩ := wk_ex (f := nx t) (fun a _ => h.nx_lt a) pos
  have mle := w.le
  let G : REnv := S3 ns fd n t a good size due joined
  have c1 := dCallP_eq (n := 1) (f := f_row_of_table) (da := dCons (dFrz 4) dNil) (ρ := G) (ρ1 := G) rfl rfl (ev_row_of_table h hn w) rfl
  have c2 := dCallP_eq (n := 2) (f := f__law_walk) (da := dCons (dFrz 4) (dCons (gC (.int 0)) dNil)) (ρ := G) (ρ1 := G) rfl rfl (ev_law_walk (.inl rfl) h hn pos w) rfl
  have src : iSeq (dCallP 2 f__law_walk (dCons (dFrz 4) (dCons (gC (.int 0)) dNil))) G = some (ii (nI (ws (nx t) 0 m)), none, G) := by rw [iSeq, c2]; rfl
  let H (x : L) : REnv := E_law (.t (.lkl (ii ns))) (.own (.lst fd)) (.t (.int ((n + 1 : Nat) : Int))) (SLo n) (TT t) (TO t) (.t (.int (a : Nat))) x (.t (.int ((2 ^ n : Nat) : Int))) good size due .un joined
  have c := compL_m (vs := [7]) (g := gNameT 7) (de := den2 gIx (den2 gIx (gVar 3) (gVar 7)) (gC (.int 0))) (ρ := H .un) (fun a : Nat => T.int (a : Nat)) (fun a => T.int (rb n a)) (ws (nx t) 0 m) (fun b hb => by
    have ltb : b < 2 ^ (n + 1) := by
      obtain ⟨j, _, rfl⟩ := mem_ws.mp hb
      exact itF_lt (fun a _ => h.nx_lt a) j 0 pos
    exact ⟨H (.t (.int (b : Nat))), rfl, _, H (.t (.int (b : Nat))), den2_eq (g := gIx) (den2_eq (g := gIx) (d1 := gVar 3) (d2 := gVar 7) (ρ1 := H (.t (.int (b : Nat)))) (ρ2 := H (.t (.int (b : Nat)))) (l1 := .ref 3) (l2 := .t (.int (b : Nat))) rfl rfl (gIx_o _ (xs := (sts (n + 1)).map tupT) rfl (sts_ix ltb))) (d2 := gC (.int 0)) (l2 := .t (.int 0)) (ρ2 := H (.t (.int (b : Nat)))) rfl (gIx_t _ (st_ix0 n b)), rfl, rfl⟩)
  have e : (ws (nx t) 0 m).map (fun a : Nat => T.int (a : Nat)) = ii (nI (ws (nx t) 0 m)) := by rw [ii, nI, List.map_map]; rfl
  have e2 : (ws (nx t) 0 m).map (fun a => T.int (rb n a)) = ii ((ws (nx t) 0 m).map (rb n)) := by rw [ii, List.map_map]; rfl
  rw [e, e2] at c
  have c5 : c_law_5 G = some (.own (.lst (ii ((ws (nx t) 0 m).map (rb n)))), G) := compD_eq (ho := none) (ρ1 := G) src c (by simp only [List.length_map, ws_len, line]; omega)
  have ok := ok_ii (l := (ws (nx t) 0 m).map (rb n)) (by rw [List.length_map, ws_len]; omega)
  exact dNF (dTru_b (dCallP_eq (n := 2) (f := f__law_alike 5) (dCons_eq c1 rfl (dCons_eq c5 rfl (da := dNil) (ts := []) rfl)) rfl (al ok.1 ok.2) rfl))
theorem lw_end {good size due : L} (g : Gd n t) (hn : n < 6) : ∃ ρ', dSeq t_law_28 (dSeq t_law_30 t_law_31) (S3 ns fd n t a good size due .un) = some (.ret (.t (.bl true)), ρ') := by
  have hp := pow_small hn
  let J := joinK n t (2 ^ n)
  have jo := joined_ok g (2 ^ n) (Nat.le_refl _)
  have on := one_round jo.1 jo.2
  let G : REnv := S3 ns fd n t a good size due .un
  let G1 : REnv := S3 ns fd n t a good size due (.own (.lst (ii J)))
  let G2 : REnv := S3 ns fd n t a good size due (.t (.lst (ii J)))
  have s1 : t_law_28 G = some (.nx, G1) := dSet_o (i := 13) (dCallP_eq (n := 1) (f := f__law_joined) (da := dCons (dFrz 4) dNil) (ρ := G) (ρ1 := G) rfl rfl (ev_law_joined g hn) rfl) (show 13 < 14 from by decide)
  have ok := ok_ii (l := J) (by have : J.length = 2 ^ (n + 1) := jo.1.1.1; omega)
  have b9 : b_law_9 G1 = some (false, G2) := by
    have c1 := dCallP_eq (n := 1) (f := f_joined_table) (da := dCons (dFrz 4) dNil) (ρ := G1) (ρ1 := G1) rfl rfl (ev_joined_table g hn) rfl
    have k1 := dNF (dTru_b (dCallP_eq (n := 2) (f := f__law_alike 5) (dCons_eq c1 rfl (dCons_eq (d := dFrz 13) (ρ1 := G2) (l := .t (.lst (ii J))) rfl rfl (da := dNil) (ts := []) rfl)) rfl (al ok.1 ok.2) rfl))
    have k2 := dBl_eq (den2_eq (g := gB gNe) (d1 := gVar 4) (d2 := gVar 5) (ρ := G2) (ρ1 := G2) (ρ2 := G2) (l1 := TT t) (l2 := .ref 5) rfl rfl (gNe_same (x := t) rfl rfl))
    exact dOr_ff k1 k2
  have s2 : t_law_30 G1 = some (.nx, G2) := (dIfS_f (c := b_law_9) (d := t_law_29) (d' := dNx) b9).trans rfl
  let G3 : REnv := E_law (.t (.lkl (ii ns))) (.own (.lst fd)) (.t (.int ((n + 1 : Nat) : Int))) (.t (.lst ((sts (n + 1)).map tupT))) (TT t) (TO t) (.t (.int (a : Nat))) .un (.t (.int ((2 ^ n : Nat) : Int))) good size due .un (.t (.lst (ii J)))
  have c := dCallP_eq (n := 3) (f := f__law_one_round) (da := dCons (dFrz 13) (dCons (dFrz 3) (dCons (dFrz 2) dNil))) (ρ := G2) (ρ1 := G3) rfl rfl (ev_one_round jo.1 hn on) rfl
  refine ⟨G3, ?_⟩
  rw [dSeq_nx s1, dSeq_nx s2]
  exact dRet_eq c
end
theorem ev_law (ns : List Int) : f_law [.lkl (ii ns)] = some (.t (.bl true)) := by
  have gf0 : GF (FD ns 0 0 1) := ⟨ns, 0, 0, 1, rfl, by decide, by decide, by decide, by decide⟩
  have s1 : t_law_1 (E_law (.t (.lkl (ii ns))) .un .un .un .un .un .un .un .un .un .un .un .un .un) = some (.nx, E_law (.t (.lkl (ii ns))) (.own (.lst (FD ns 0 0 1))) .un .un .un .un .un .un .un .un .un .un .un .un) := by
    have e : f__law_feed [.lkl (ii ns)] = some (.own (.lst (FD ns 0 0 1))) := rfl
    exact dSet_o (i := 1) (dCallP_eq (n := 1) (f := f__law_feed) (da := dCons (gVar 0) dNil) (ts := [.lkl (ii ns)]) (ρ := E_law (.t (.lkl (ii ns))) .un .un .un .un .un .un .un .un .un .un .un .un .un) (ρ1 := E_law (.t (.lkl (ii ns))) .un .un .un .un .un .un .un .un .un .un .un .un .un) rfl rfl e rfl) (show 1 < 14 from by decide)
  obtain ⟨n, fd1, hn, g1, s2⟩ := lw_n (ns := ns) gf0
  have hp := pow_small hn
  have s5 : t_law_5 (S ns fd1 (n + 1) .un .un .un .un .un .un .un .un .un) = some (.nx, S ns fd1 (n + 1) (SLo n) .un .un .un .un .un .un .un .un) :=
    dSet_o (i := 3) (dCallP_eq (n := 2) (f := f__law_tuples) (da := dCons (gC (.int 2)) (dCons (dFrz 2) dNil)) (ρ := S ns fd1 (n + 1) .un .un .un .un .un .un .un .un .un) (ρ1 := S ns fd1 (n + 1) .un .un .un .un .un .un .un .un .un) rfl rfl (ev_law_tuples (n + 1) (by omega)) rfl) (show 3 < 14 from by decide)
  obtain ⟨t, fd2, e6, h, g2⟩ := ev_drawn (n := n) g1 hn
  have s6 : t_law_6 (S ns fd1 (n + 1) (SLo n) .un .un .un .un .un .un .un .un) = some (.nx, S ns fd2 (n + 1) (SLo n) (TO t) .un .un .un .un .un .un .un) :=
    dSet_o (i := 4) (callF (i := 1) (g := g__law_drawn) (da := dCons (dFrz 2) dNil) (ρ := S ns fd1 (n + 1) (SLo n) .un .un .un .un .un .un .un .un) (ρ1 := S ns fd1 (n + 1) (SLo n) .un .un .un .un .un .un .un .un) rfl rfl rfl e6 rfl) (show 4 < 14 from by decide)
  have s7 : t_law_7 (S ns fd2 (n + 1) (SLo n) (TO t) .un .un .un .un .un .un .un) = some (.nx, S ns fd2 (n + 1) (SLo n) (TO t) (TO t) .un .un .un .un .un .un) := rfl
  have len : den1 gLen (gVar 3) (S ns fd2 (n + 1) (SLo n) (TO t) (TO t) .un .un .un .un .un .un) = some (.t (.int ((2 ^ (n + 1) : Nat) : Int)), S ns fd2 (n + 1) (SLo n) (TO t) (TO t) .un .un .un .un .un .un) := by
    have := den1_eq (g := gLen) (d := gVar 3) (ρ := S ns fd2 (n + 1) (SLo n) (TO t) (TO t) .un .un .un .un .un .un) (ρ1 := S ns fd2 (n + 1) (SLo n) (TO t) (TO t) .un .un .un .un .un .un) (l1 := .ref 3) rfl (gLen_r _ (k := 3) (t := (sts (n + 1)).map tupT) rfl)
    rwa [List.length_map, sts_len] at this
  have pos := Nat.two_pow_pos (n + 1)
  obtain ⟨a, fd3, e8, a1, g3⟩ := drw (i := 1) (ρ := S ns fd2 (n + 1) (SLo n) (TO t) (TO t) .un .un .un .un .un .un) (m := ((2 ^ (n + 1) : Nat) : Int)) rfl (dCons_eq len rfl (da := dNil) (ts := []) rfl) rfl g2 (by omega) (by omega)
  have ha : a < 2 ^ (n + 1) := by omega
  have s8 : t_law_8 (S ns fd2 (n + 1) (SLo n) (TO t) (TO t) .un .un .un .un .un .un) = some (.nx, S ns fd3 (n + 1) (SLo n) (TO t) (TO t) (.t (.int (a : Nat))) .un .un .un .un .un) := dSet_t (i := 6) e8 (show 6 < 14 from by decide)
  have s10 : t_law_10 (S ns fd3 (n + 1) (SLo n) (TO t) (TO t) (.t (.int (a : Nat))) .un .un .un .un .un) = some (.nx, S ns fd3 (n + 1) (SLo n) (TT t) (TO t) (.t (.int (a : Nat))) .un .un .un .un .un) :=
    (dIfS_f (c := b_law_2) (d := t_law_9) (d' := dNx) (lw_b2 h hn ha)).trans rfl
  have s11 : t_law_11 (S ns fd3 (n + 1) (SLo n) (TT t) (TO t) (.t (.int (a : Nat))) .un .un .un .un .un) = some (.nx, S3 ns fd3 n t a .un .un .un .un) :=
    dSet_t (i := 8) (half_den (ρ := S ns fd3 (n + 1) (SLo n) (TT t) (TO t) (.t (.int (a : Nat))) .un .un .un .un .un) (t := t) (i := 3) (x := .ref 3) rfl (by rw [gLen_r _ (k := 3) (t := (sts (n + 1)).map tupT) rfl, List.length_map, sts_len, h.1]) h.1) (show 8 < 14 from by decide)
  have s12 := lw_good (ns := ns) (fd := fd3) (a := a) h hn
  have s14 : t_law_14 (S3 ns fd3 n t a (.t (.bl (gdB n t))) .un .un .un) = some (.nx, S3 ns fd3 n t a (.t (.bl (gdB n t))) .un .un .un) := (dIfS_f (c := b_law_3) (d := t_law_13) (d' := dNx) (lw_b3 h hn rfl)).trans rfl
  obtain ⟨z1, fd4, z1a, z1b, g4, s15⟩ := lw_size (ns := ns) (n := n) (t := t) (a := a) (good := .t (.bl (gdB n t))) (size := .un) (due := .un) (joined := .un) 3 (by decide) (by decide) (d := den2 gAdd (gC (.int 1)) (dCallF 2 1 g__law_draw (dCons (gC (.int 3)) dNil))) rfl g3
  have s17 : t_law_17 (S3 ns fd4 n t a (.t (.bl (gdB n t))) (.t (.int (z1 : Nat))) .un .un) = some (.nx, S3 ns fd4 n t a (.t (.bl (gdB n t))) (.t (.int (z1 : Nat))) .un .un) := (dIfS_f (c := b_law_4) (d := t_law_16) (d' := dNx) (lw_b4 z1a z1b)).trans rfl
  obtain ⟨z2, fd5, z2a, z2b, g5, s18⟩ := lw_size (ns := ns) (n := n) (t := t) (a := a) (good := .t (.bl (gdB n t))) (size := .t (.int (z1 : Nat))) (due := .un) (joined := .un) 6 (by decide) (by decide) (d := den2 gAdd (gC (.int 1)) (dCallF 2 1 g__law_draw (dCons (gC (.int 6)) dNil))) rfl g4
  have s20 : t_law_20 (S3 ns fd5 n t a (.t (.bl (gdB n t))) (.t (.int (z2 : Nat))) .un .un) = some (.nx, S3 ns fd5 n t a (.t (.bl (gdB n t))) (.t (.int (z2 : Nat))) .un .un) := (dIfS_f (c := b_law_5) (d := t_law_19) (d' := dNx) (lw_b5 z2a z2b)).trans rfl
  let G : REnv := S3 ns fd5 n t a (.t (.bl (gdB n t))) (.t (.int (z2 : Nat))) .un .un
  have b6 : b_law_6 G = some (!gdB n t, G) := dNot_t (dTru_b (d := gVar 9) (ρ := G) (ρ' := G) rfl)
  have start : ∃ ρ', d_law (E_law (.t (.lkl (ii ns))) .un .un .un .un .un .un .un .un .un .un .un .un .un) = some (.ret (.t (.bl true)), ρ') := by
    rw [d_law, dSeq_nx s1, s2, dSeq_nx s5, dSeq_nx s6, dSeq_nx s7, dSeq_nx s8, dSeq_nx s10, dSeq_nx s11, dSeq_nx s12, dSeq_nx s14, dSeq_nx (d := t_law_15) s15, dSeq_nx s17, dSeq_nx (d := t_law_18) s18, dSeq_nx s20]
    by_cases q : gdB n t = true
    · have g := (gdB_iff h).mp q
      rw [q] at b6
      have s22 : t_law_22 G = some (.nx, G) := (dIfS_f (c := b_law_6) (d := t_law_21) (d' := dNx) b6).trans rfl
      rw [dSeq_nx s22, dSeq_nx (lw_due h hn), dSeq_nx (show t_law_25 _ = some (.nx, _) from (dIfS_f (c := b_law_7) (d := t_law_24) (d' := dNx) (lw_b7 h hn)).trans rfl), dSeq_nx (show t_law_27 _ = some (.nx, _) from (dIfS_f (c := b_law_8) (d := t_law_26) (d' := dNx) (lw_b8 h hn)).trans rfl)]
      exact lw_end g hn
    · rw [Bool.not_eq_true] at q
      rw [q] at b6
      exact ⟨G, dSeq_ret (d := t_law_22) ((dIfS_t (c := b_law_6) (d := t_law_21) (d' := dNx) b6).trans rfl)⟩
  obtain ⟨ρ', run⟩ := start
  exact bodyP_t (ρ' := ρ') rfl run
end LK
namespace LK
open PySem PySem.Spec PyProof.Rows L2 LW
abbrev fa0 : Nat → Addr := fun _ => 0
def spLaw (K : PySem.W.Frag) : Sp := spM K fa0 1 (pureF f_law)
theorem law_sp {K : PySem.W.Frag} {H : Hp} {a : Addr} {ns : List Int} {E : XK} (hS : SqL K H a (ns.map V.int)) : spLaw K [.ref a] H (fun v _ => v = .bl true) E :=
  ⟨rfl, H, [.t (.lkl (ns.map T.int))], .t (.bl true), [.t (.lkl (ns.map T.int))], env_ts (ts := [.lkl (ns.map T.int)]) (Same.refl _) (RepAll.one (.lkl hS (RepAll.of_ints ns))), by
    have e : f_law [.lkl (ns.map T.int)] = some (.t (.bl true)) := ev_law ns
    simp only [pureF, allT, Option.map_some, Option.bind_some, e], fun v G' H' P => Rep.bl_inv P.rep⟩
theorem all_mk {l : PySem.W.OpenLaw} {w : World} {K : PySem.W.Frag} {h : Heap} {mg : Str → Option Value} {fa f1 f2 f3 f4 f5 f6 f7 f8 f9 f10 f11 f12 f13 f14 f15 f16 f17 f18 f19 f20 f21 f22 f23 f24 : Addr} (X : K.In h) (G : h.Ns mainGlobals mg) (hfa : mg "law" = some (.ref fa))
    {od1 an1 od2 an2 od3 an3 od4 an4 od5 an5 od6 an6 od7 an7 od8 an8 od9 an9 od10 an10 od11 an11 od12 an12 od13 an13 od14 an14 od15 an15 od16 an16 od17 an17 od18 an18 od19 an19 od20 an20 od21 an21 od22 an22 od23 an23 od24 an24 : Option Addr} {sl1 sl2 sl3 sl4 sl5 sl6 sl7 sl8 sl9 sl10 sl11 sl12 sl13 sl14 sl15 sl16 sl17 sl18 sl19 sl20 sl21 sl22 sl23 sl24 : Array (Option Value)} {oc1 kV1 dc1 pm1 cd1 ct1 oc2 kV2 dc2 pm2 cd2 ct2 oc3 kV3 dc3 pm3 cd3 ct3 oc4 kV4 dc4 pm4 cd4 ct4 oc5 kV5 dc5 pm5 cd5 ct5 oc6 kV6 dc6 pm6 cd6 ct6 oc7 kV7 dc7 pm7 cd7 ct7 oc8 kV8 dc8 pm8 cd8 ct8 oc9 kV9 dc9 pm9 cd9 ct9 oc10 kV10 dc10 pm10 cd10 ct10 oc11 kV11 dc11 pm11 cd11 ct11 oc12 kV12 dc12 pm12 cd12 ct12 oc13 kV13 dc13 pm13 cd13 ct13 oc14 kV14 dc14 pm14 cd14 ct14 oc15 kV15 dc15 pm15 cd15 ct15 oc16 kV16 dc16 pm16 cd16 ct16 oc17 kV17 dc17 pm17 cd17 ct17 oc18 kV18 dc18 pm18 cd18 ct18 oc19 kV19 dc19 pm19 cd19 ct19 oc20 kV20 dc20 pm20 cd20 ct20 oc21 kV21 dc21 pm21 cd21 ct21 oc22 kV22 dc22 pm22 cd22 ct22 oc23 kV23 dc23 pm23 cd23 ct23 oc24 kV24 dc24 pm24 cd24 ct24 : Value}
    (a1 : PySem.W.nsIn K mainGlobals "_law_alike" = some (some (.ref f1))) (l1 : K.lookup f1 = some ⟨oc1, od1, .func (PySem.W.fnOf "_law_alike" "_law_alike" (defArgs s__law_alike) (defBody s__law_alike) (defScope s__law_alike) .none kV1 dc1 pm1 an1 cd1 ct1), sl1⟩) (c1 : PySem.W.codeIn K cd1 "_law_alike" = true) (k1 : PySem.W.keepIn K (.ref f1) = true)
    (a2 : PySem.W.nsIn K mainGlobals "_law_walk" = some (some (.ref f2))) (l2 : K.lookup f2 = some ⟨oc2, od2, .func (PySem.W.fnOf "_law_walk" "_law_walk" (defArgs s__law_walk) (defBody s__law_walk) (defScope s__law_walk) .none kV2 dc2 pm2 an2 cd2 ct2), sl2⟩) (c2 : PySem.W.codeIn K cd2 "_law_walk" = true) (k2 : PySem.W.keepIn K (.ref f2) = true)
    (a3 : PySem.W.nsIn K mainGlobals "_law_single" = some (some (.ref f3))) (l3 : K.lookup f3 = some ⟨oc3, od3, .func (PySem.W.fnOf "_law_single" "_law_single" (defArgs s__law_single) (defBody s__law_single) (defScope s__law_single) .none kV3 dc3 pm3 an3 cd3 ct3), sl3⟩) (c3 : PySem.W.codeIn K cd3 "_law_single" = true) (k3 : PySem.W.keepIn K (.ref f3) = true)
    (a4 : PySem.W.nsIn K mainGlobals "_law_tuples" = some (some (.ref f4))) (l4 : K.lookup f4 = some ⟨oc4, od4, .func (PySem.W.fnOf "_law_tuples" "_law_tuples" (defArgs s__law_tuples) (defBody s__law_tuples) (defScope s__law_tuples) .none kV4 dc4 pm4 an4 cd4 ct4), sl4⟩) (c4 : PySem.W.codeIn K cd4 "_law_tuples" = true) (k4 : PySem.W.keepIn K (.ref f4) = true)
    (a5 : PySem.W.nsIn K mainGlobals "_law_counted" = some (some (.ref f5))) (l5 : K.lookup f5 = some ⟨oc5, od5, .func (PySem.W.fnOf "_law_counted" "_law_counted" (defArgs s__law_counted) (defBody s__law_counted) (defScope s__law_counted) .none kV5 dc5 pm5 an5 cd5 ct5), sl5⟩) (c5 : PySem.W.codeIn K cd5 "_law_counted" = true) (k5 : PySem.W.keepIn K (.ref f5) = true)
    (a6 : PySem.W.nsIn K mainGlobals "_law_draw" = some (some (.ref f6))) (l6 : K.lookup f6 = some ⟨oc6, od6, .func (PySem.W.fnOf "_law_draw" "_law_draw" (defArgs s__law_draw) (defBody s__law_draw) (defScope s__law_draw) .none kV6 dc6 pm6 an6 cd6 ct6), sl6⟩) (c6 : PySem.W.codeIn K cd6 "_law_draw" = true) (k6 : PySem.W.keepIn K (.ref f6) = true)
    (a7 : PySem.W.nsIn K mainGlobals "_law_drawn" = some (some (.ref f7))) (l7 : K.lookup f7 = some ⟨oc7, od7, .func (PySem.W.fnOf "_law_drawn" "_law_drawn" (defArgs s__law_drawn) (defBody s__law_drawn) (defScope s__law_drawn) .none kV7 dc7 pm7 an7 cd7 ct7), sl7⟩) (c7 : PySem.W.codeIn K cd7 "_law_drawn" = true) (k7 : PySem.W.keepIn K (.ref f7) = true)
    (a8 : PySem.W.nsIn K mainGlobals "_law_feed" = some (some (.ref f8))) (l8 : K.lookup f8 = some ⟨oc8, od8, .func (PySem.W.fnOf "_law_feed" "_law_feed" (defArgs s__law_feed) (defBody s__law_feed) (defScope s__law_feed) .none kV8 dc8 pm8 an8 cd8 ct8), sl8⟩) (c8 : PySem.W.codeIn K cd8 "_law_feed" = true) (k8 : PySem.W.keepIn K (.ref f8) = true)
    (a9 : PySem.W.nsIn K mainGlobals "_law_joined" = some (some (.ref f9))) (l9 : K.lookup f9 = some ⟨oc9, od9, .func (PySem.W.fnOf "_law_joined" "_law_joined" (defArgs s__law_joined) (defBody s__law_joined) (defScope s__law_joined) .none kV9 dc9 pm9 an9 cd9 ct9), sl9⟩) (c9 : PySem.W.codeIn K cd9 "_law_joined" = true) (k9 : PySem.W.keepIn K (.ref f9) = true)
    (a10 : PySem.W.nsIn K mainGlobals "is_round_table" = some (some (.ref f10))) (l10 : K.lookup f10 = some ⟨oc10, od10, .func (PySem.W.fnOf "is_round_table" "is_round_table" (defArgs s_is_round_table) (defBody s_is_round_table) (defScope s_is_round_table) .none kV10 dc10 pm10 an10 cd10 ct10), sl10⟩) (c10 : PySem.W.codeIn K cd10 "is_round_table" = true) (k10 : PySem.W.keepIn K (.ref f10) = true)
    (a11 : PySem.W.nsIn K mainGlobals "all_tuples" = some (some (.ref f11))) (l11 : K.lookup f11 = some ⟨oc11, od11, .func (PySem.W.fnOf "all_tuples" "all_tuples" (defArgs s_all_tuples) (defBody s_all_tuples) (defScope s_all_tuples) .none kV11 dc11 pm11 an11 cd11 ct11), sl11⟩) (c11 : PySem.W.codeIn K cd11 "all_tuples" = true) (k11 : PySem.W.keepIn K (.ref f11) = true)
    (a12 : PySem.W.nsIn K mainGlobals "number_of" = some (some (.ref f12))) (l12 : K.lookup f12 = some ⟨oc12, od12, .func (PySem.W.fnOf "number_of" "number_of" (defArgs s_number_of) (defBody s_number_of) (defScope s_number_of) .none kV12 dc12 pm12 an12 cd12 ct12), sl12⟩) (c12 : PySem.W.codeIn K cd12 "number_of" = true) (k12 : PySem.W.keepIn K (.ref f12) = true)
    (a13 : PySem.W.nsIn K mainGlobals "next_of" = some (some (.ref f13))) (l13 : K.lookup f13 = some ⟨oc13, od13, .func (PySem.W.fnOf "next_of" "next_of" (defArgs s_next_of) (defBody s_next_of) (defScope s_next_of) .none kV13 dc13 pm13 an13 cd13 ct13), sl13⟩) (c13 : PySem.W.codeIn K cd13 "next_of" = true) (k13 : PySem.W.keepIn K (.ref f13) = true)
    (a14 : PySem.W.nsIn K mainGlobals "table_states" = some (some (.ref f14))) (l14 : K.lookup f14 = some ⟨oc14, od14, .func (PySem.W.fnOf "table_states" "table_states" (defArgs s_table_states) (defBody s_table_states) (defScope s_table_states) .none kV14 dc14 pm14 an14 cd14 ct14), sl14⟩) (c14 : PySem.W.codeIn K cd14 "table_states" = true) (k14 : PySem.W.keepIn K (.ref f14) = true)
    (a15 : PySem.W.nsIn K mainGlobals "are_apart" = some (some (.ref f15))) (l15 : K.lookup f15 = some ⟨oc15, od15, .func (PySem.W.fnOf "are_apart" "are_apart" (defArgs s_are_apart) (defBody s_are_apart) (defScope s_are_apart) .none kV15 dc15 pm15 an15 cd15 ct15), sl15⟩) (c15 : PySem.W.codeIn K cd15 "are_apart" = true) (k15 : PySem.W.keepIn K (.ref f15) = true)
    (a16 : PySem.W.nsIn K mainGlobals "power_of" = some (some (.ref f16))) (l16 : K.lookup f16 = some ⟨oc16, od16, .func (PySem.W.fnOf "power_of" "power_of" (defArgs s_power_of) (defBody s_power_of) (defScope s_power_of) .none kV16 dc16 pm16 an16 cd16 ct16), sl16⟩) (c16 : PySem.W.codeIn K cd16 "power_of" = true) (k16 : PySem.W.keepIn K (.ref f16) = true)
    (a17 : PySem.W.nsIn K mainGlobals "size_of_table" = some (some (.ref f17))) (l17 : K.lookup f17 = some ⟨oc17, od17, .func (PySem.W.fnOf "size_of_table" "size_of_table" (defArgs s_size_of_table) (defBody s_size_of_table) (defScope s_size_of_table) .none kV17 dc17 pm17 an17 cd17 ct17), sl17⟩) (c17 : PySem.W.codeIn K cd17 "size_of_table" = true) (k17 : PySem.W.keepIn K (.ref f17) = true)
    (a18 : PySem.W.nsIn K mainGlobals "joined_table" = some (some (.ref f18))) (l18 : K.lookup f18 = some ⟨oc18, od18, .func (PySem.W.fnOf "joined_table" "joined_table" (defArgs s_joined_table) (defBody s_joined_table) (defScope s_joined_table) .none kV18 dc18 pm18 an18 cd18 ct18), sl18⟩) (c18 : PySem.W.codeIn K cd18 "joined_table" = true) (k18 : PySem.W.keepIn K (.ref f18) = true)
    (a19 : PySem.W.nsIn K mainGlobals "rounds_of_table" = some (some (.ref f19))) (l19 : K.lookup f19 = some ⟨oc19, od19, .func (PySem.W.fnOf "rounds_of_table" "rounds_of_table" (defArgs s_rounds_of_table) (defBody s_rounds_of_table) (defScope s_rounds_of_table) .none kV19 dc19 pm19 an19 cd19 ct19), sl19⟩) (c19 : PySem.W.codeIn K cd19 "rounds_of_table" = true) (k19 : PySem.W.keepIn K (.ref f19) = true)
    (a20 : PySem.W.nsIn K mainGlobals "row_of_table" = some (some (.ref f20))) (l20 : K.lookup f20 = some ⟨oc20, od20, .func (PySem.W.fnOf "row_of_table" "row_of_table" (defArgs s_row_of_table) (defBody s_row_of_table) (defScope s_row_of_table) .none kV20 dc20 pm20 an20 cd20 ct20), sl20⟩) (c20 : PySem.W.codeIn K cd20 "row_of_table" = true) (k20 : PySem.W.keepIn K (.ref f20) = true)
    (a21 : PySem.W.nsIn K mainGlobals "_law_one_round" = some (some (.ref f21))) (l21 : K.lookup f21 = some ⟨oc21, od21, .func (PySem.W.fnOf "_law_one_round" "_law_one_round" (defArgs s__law_one_round) (defBody s__law_one_round) (defScope s__law_one_round) .none kV21 dc21 pm21 an21 cd21 ct21), sl21⟩) (c21 : PySem.W.codeIn K cd21 "_law_one_round" = true) (k21 : PySem.W.keepIn K (.ref f21) = true)
    (a22 : PySem.W.nsIn K mainGlobals "_law_rounds" = some (some (.ref f22))) (l22 : K.lookup f22 = some ⟨oc22, od22, .func (PySem.W.fnOf "_law_rounds" "_law_rounds" (defArgs s__law_rounds) (defBody s__law_rounds) (defScope s__law_rounds) .none kV22 dc22 pm22 an22 cd22 ct22), sl22⟩) (c22 : PySem.W.codeIn K cd22 "_law_rounds" = true) (k22 : PySem.W.keepIn K (.ref f22) = true)
    (a23 : PySem.W.nsIn K mainGlobals "count_greatest_rounds" = some (some (.ref f23))) (l23 : K.lookup f23 = some ⟨oc23, od23, .func (PySem.W.fnOf "count_greatest_rounds" "count_greatest_rounds" (defArgs s_count_greatest_rounds) (defBody s_count_greatest_rounds) (defScope s_count_greatest_rounds) .none kV23 dc23 pm23 an23 cd23 ct23), sl23⟩) (c23 : PySem.W.codeIn K cd23 "count_greatest_rounds" = true) (k23 : PySem.W.keepIn K (.ref f23) = true)
    (a24 : PySem.W.nsIn K mainGlobals "law" = some (some (.ref f24))) (l24 : K.lookup f24 = some ⟨oc24, od24, .func (PySem.W.fnOf "law" "law" (defArgs s_law) (defBody s_law) (defScope s_law) .none kV24 dc24 pm24 an24 cd24 ct24), sl24⟩) (c24 : PySem.W.codeIn K cd24 "law" = true) (k24 : PySem.W.keepIn K (.ref f24) = true)
    (z_abs : PySem.W.nsIn K mainGlobals "abs" = some none)
    (z_all : PySem.W.nsIn K mainGlobals "all" = some none)
    (z_bool : PySem.W.nsIn K mainGlobals "bool" = some none)
    (z_int : PySem.W.nsIn K mainGlobals "int" = some none)
    (z_isinstance : PySem.W.nsIn K mainGlobals "isinstance" = some none)
    (z_len : PySem.W.nsIn K mainGlobals "len" = some none)
    (z_list : PySem.W.nsIn K mainGlobals "list" = some none)
    (z_range : PySem.W.nsIn K mainGlobals "range" = some none)
    (z_sorted : PySem.W.nsIn K mainGlobals "sorted" = some none)
    (z_str : PySem.W.nsIn K mainGlobals "str" = some none)
    (z_tuple : PySem.W.nsIn K mainGlobals "tuple" = some none)
    : ∃ fd : FuncData, (∀ (s : Shared) (v : Value), BindsTo s fd ⟨[v], []⟩ [("script", v)]) ∧ ∀ base : Heap, K.In base → base.Ns mainGlobals mg → FnOk l.prog w K mg base CX0 8 fa fd ["script"] (spLaw K) := by
  have e := hfa.symm.trans (PySem.W.mg_of X G a24)
  cases e
  have F1 := fun_mk (st := s__law_alike) l1 c1 k1
  have F2 := fun_mk (st := s__law_walk) l2 c2 k2
  have F3 := fun_mk (st := s__law_single) l3 c3 k3
  have F4 := fun_mk (st := s__law_tuples) l4 c4 k4
  have F5 := fun_mk (st := s__law_counted) l5 c5 k5
  have F6 := fun_mk (st := s__law_draw) l6 c6 k6
  have F7 := fun_mk (st := s__law_drawn) l7 c7 k7
  have F8 := fun_mk (st := s__law_feed) l8 c8 k8
  have F9 := fun_mk (st := s__law_joined) l9 c9 k9
  have F10 := fun_mk (st := s_is_round_table) l10 c10 k10
  have F11 := fun_mk (st := s_all_tuples) l11 c11 k11
  have F12 := fun_mk (st := s_number_of) l12 c12 k12
  have F13 := fun_mk (st := s_next_of) l13 c13 k13
  have F14 := fun_mk (st := s_table_states) l14 c14 k14
  have F15 := fun_mk (st := s_are_apart) l15 c15 k15
  have F16 := fun_mk (st := s_power_of) l16 c16 k16
  have F17 := fun_mk (st := s_size_of_table) l17 c17 k17
  have F18 := fun_mk (st := s_joined_table) l18 c18 k18
  have F19 := fun_mk (st := s_rounds_of_table) l19 c19 k19
  have F20 := fun_mk (st := s_row_of_table) l20 c20 k20
  have F21 := fun_mk (st := s__law_one_round) l21 c21 k21
  have F22 := fun_mk (st := s__law_rounds) l22 c22 k22
  have F23 := fun_mk (st := s_count_greatest_rounds) l23 c23 k23
  have F24 := fun_mk (st := s_law) l24 c24 k24
  have m_abs := PySem.W.mg_none_of X G z_abs
  have m_all := PySem.W.mg_none_of X G z_all
  have m_bool := PySem.W.mg_none_of X G z_bool
  have m_int := PySem.W.mg_none_of X G z_int
  have m_isinstance := PySem.W.mg_none_of X G z_isinstance
  have m_len := PySem.W.mg_none_of X G z_len
  have m_list := PySem.W.mg_none_of X G z_list
  have m_range := PySem.W.mg_none_of X G z_range
  have m_sorted := PySem.W.mg_none_of X G z_sorted
  have m_str := PySem.W.mg_none_of X G z_str
  have m_tuple := PySem.W.mg_none_of X G z_tuple
  refine ⟨PySem.W.fnOf "law" "law" (defArgs s_law) (defBody s_law) (defScope s_law) .none kV24 dc24 pm24 an24 cd24 ct24, fun s v => .of_eq rfl, fun base _ _ => ?_⟩
  have b1 := F1.binds (ps := ["told", "due"]) fun _ _ _ _ _ _ us hl => match us, hl with | [_, _], _ => rfl
  have r0__law_alike : Fn l.prog w K mg base fa0 1 "_law_alike" 2 (pureF (f__law_alike 0)) := fn_none F1 sc__law_alike (PySem.W.mg_of X G a1) b1
  have r1__law_alike : Fn l.prog w K mg base fa0 2 "_law_alike" 2 (pureF (f__law_alike 1)) := ok__law_alike (fr := f__law_alike 0) F1 (PySem.W.mg_of X G a1) b1 r0__law_alike m_bool m_int m_isinstance m_len m_list m_range m_str m_tuple
  have r2__law_alike : Fn l.prog w K mg base fa0 3 "_law_alike" 2 (pureF (f__law_alike 2)) := ok__law_alike (fr := f__law_alike 1) F1 (PySem.W.mg_of X G a1) b1 r1__law_alike m_bool m_int m_isinstance m_len m_list m_range m_str m_tuple
  have r3__law_alike : Fn l.prog w K mg base fa0 4 "_law_alike" 2 (pureF (f__law_alike 3)) := ok__law_alike (fr := f__law_alike 2) F1 (PySem.W.mg_of X G a1) b1 r2__law_alike m_bool m_int m_isinstance m_len m_list m_range m_str m_tuple
  have r4__law_alike : Fn l.prog w K mg base fa0 5 "_law_alike" 2 (pureF (f__law_alike 4)) := ok__law_alike (fr := f__law_alike 3) F1 (PySem.W.mg_of X G a1) b1 r3__law_alike m_bool m_int m_isinstance m_len m_list m_range m_str m_tuple
  have r5__law_alike : Fn l.prog w K mg base fa0 6 "_law_alike" 2 (pureF (f__law_alike 5)) := ok__law_alike (fr := f__law_alike 4) F1 (PySem.W.mg_of X G a1) b1 r4__law_alike m_bool m_int m_isinstance m_len m_list m_range m_str m_tuple
  have o__law_alike := r5__law_alike
  have b2 := F2.binds (ps := ["table", "at"]) fun _ _ _ _ _ _ us hl => match us, hl with | [_, _], _ => rfl
  have o__law_walk : Fn l.prog w K mg base fa0 1 "_law_walk" 2 (pureF f__law_walk) := ok__law_walk F2 (PySem.W.mg_of X G a2) b2  m_int m_len m_range
  have b3 := F3.binds (ps := ["table"]) fun _ _ _ _ _ _ us hl => match us, hl with | [_], _ => rfl
  have o__law_single : Fn l.prog w K mg base fa0 2 "_law_single" 1 (pureF f__law_single) := ok__law_single F3 (PySem.W.mg_of X G a3) b3 (o__law_walk.mono (by decide)) m_len m_range
  have b4 := F4.binds (ps := ["p", "many"]) fun _ _ _ _ _ _ us hl => match us, hl with | [_, _], _ => rfl
  have o__law_tuples : Fn l.prog w K mg base fa0 1 "_law_tuples" 2 (pureF f__law_tuples) := ok__law_tuples F4 (PySem.W.mg_of X G a4) b4  m_range
  have b5 := F5.binds (ps := ["n"]) fun _ _ _ _ _ _ us hl => match us, hl with | [_], _ => rfl
  have o__law_counted : Fn l.prog w K mg base fa0 3 "_law_counted" 1 (pureF f__law_counted) := ok__law_counted F5 (PySem.W.mg_of X G a5) b5 (o__law_single.mono (by decide)) (o__law_tuples.mono (by decide)) m_len m_range
  have b6 := F6.binds (ps := ["feed", "many"]) fun _ _ _ _ _ _ us hl => match us, hl with | [_, _], _ => rfl
  have o__law_draw : Fn l.prog w K mg base fa0 1 "_law_draw" 2 (feedF g__law_draw) := ok__law_draw F6 (PySem.W.mg_of X G a6) b6  m_abs m_int m_len
  have b7 := F7.binds (ps := ["feed", "n"]) fun _ _ _ _ _ _ us hl => match us, hl with | [_, _], _ => rfl
  have o__law_drawn : Fn l.prog w K mg base fa0 2 "_law_drawn" 2 (feedF g__law_drawn) := ok__law_drawn F7 (PySem.W.mg_of X G a7) b7 (o__law_draw.mono (by decide)) (o__law_tuples.mono (by decide)) m_len m_range
  have b8 := F8.binds (ps := ["script"]) fun _ _ _ _ _ _ us hl => match us, hl with | [_], _ => rfl
  have o__law_feed : Fn l.prog w K mg base fa0 1 "_law_feed" 1 (pureF f__law_feed) := ok__law_feed F8 (PySem.W.mg_of X G a8) b8  m_list
  have b9 := F9.binds (ps := ["table"]) fun _ _ _ _ _ _ us hl => match us, hl with | [_], _ => rfl
  have o__law_joined : Fn l.prog w K mg base fa0 2 "_law_joined" 1 (pureF f__law_joined) := ok__law_joined F9 (PySem.W.mg_of X G a9) b9 (o__law_walk.mono (by decide)) m_len m_list m_range
  have b10 := F10.binds (ps := ["table"]) fun _ _ _ _ _ _ us hl => match us, hl with | [_], _ => rfl
  have o_is_round_table : Fn l.prog w K mg base fa0 1 "is_round_table" 1 (pureF f_is_round_table) := ok_is_round_table F10 (PySem.W.mg_of X G a10) b10  m_all m_len m_range
  have b11 := F11.binds (ps := ["p", "many"]) fun _ _ _ _ _ _ us hl => match us, hl with | [_, _], _ => rfl
  have o_all_tuples : Fn l.prog w K mg base fa0 1 "all_tuples" 2 (pureF f_all_tuples) := ok_all_tuples F11 (PySem.W.mg_of X G a11) b11  m_range
  have b12 := F12.binds (ps := ["state"]) fun _ _ _ _ _ _ us hl => match us, hl with | [_], _ => rfl
  have o_number_of : Fn l.prog w K mg base fa0 1 "number_of" 1 (pureF f_number_of) := ok_number_of F12 (PySem.W.mg_of X G a12) b12  
  have b13 := F13.binds (ps := ["table", "state"]) fun _ _ _ _ _ _ us hl => match us, hl with | [_, _], _ => rfl
  have o_next_of : Fn l.prog w K mg base fa0 2 "next_of" 2 (pureF f_next_of) := ok_next_of F13 (PySem.W.mg_of X G a13) b13 (o_number_of.mono (by decide)) 
  have b14 := F14.binds (ps := ["table", "state"]) fun _ _ _ _ _ _ us hl => match us, hl with | [_, _], _ => rfl
  have o_table_states : Fn l.prog w K mg base fa0 3 "table_states" 2 (pureF f_table_states) := ok_table_states F14 (PySem.W.mg_of X G a14) b14 (o_next_of.mono (by decide)) m_tuple
  have b15 := F15.binds (ps := ["table", "one", "other"]) fun _ _ _ _ _ _ us hl => match us, hl with | [_, _, _], _ => rfl
  have o_are_apart : Fn l.prog w K mg base fa0 4 "are_apart" 3 (pureF f_are_apart) := ok_are_apart F15 (PySem.W.mg_of X G a15) b15 (o_table_states.mono (by decide)) 
  have b16 := F16.binds (ps := ["p", "many"]) fun _ _ _ _ _ _ us hl => match us, hl with | [_, _], _ => rfl
  have o_power_of : Fn l.prog w K mg base fa0 1 "power_of" 2 (pureF f_power_of) := ok_power_of F16 (PySem.W.mg_of X G a16) b16  m_range
  have b17 := F17.binds (ps := ["table"]) fun _ _ _ _ _ _ us hl => match us, hl with | [_], _ => rfl
  have o_size_of_table : Fn l.prog w K mg base fa0 2 "size_of_table" 1 (pureF f_size_of_table) := ok_size_of_table F17 (PySem.W.mg_of X G a17) b17 (o_power_of.mono (by decide)) m_len
  have b18 := F18.binds (ps := ["table"]) fun _ _ _ _ _ _ us hl => match us, hl with | [_], _ => rfl
  have o_joined_table : Fn l.prog w K mg base fa0 5 "joined_table" 1 (pureF f_joined_table) := ok_joined_table F18 (PySem.W.mg_of X G a18) b18 (o_all_tuples.mono (by decide)) (o_are_apart.mono (by decide)) (o_size_of_table.mono (by decide)) m_len m_list m_range
  have b19 := F19.binds (ps := ["table"]) fun _ _ _ _ _ _ us hl => match us, hl with | [_], _ => rfl
  have o_rounds_of_table : Fn l.prog w K mg base fa0 4 "rounds_of_table" 1 (pureF f_rounds_of_table) := ok_rounds_of_table F19 (PySem.W.mg_of X G a19) b19 (o_all_tuples.mono (by decide)) (o_size_of_table.mono (by decide)) (o_table_states.mono (by decide)) 
  have b20 := F20.binds (ps := ["table"]) fun _ _ _ _ _ _ us hl => match us, hl with | [_], _ => rfl
  have o_row_of_table : Fn l.prog w K mg base fa0 4 "row_of_table" 1 (pureF f_row_of_table) := ok_row_of_table F20 (PySem.W.mg_of X G a20) b20 (o_size_of_table.mono (by decide)) (o_table_states.mono (by decide)) m_tuple
  have b21 := F21.binds (ps := ["joined", "states", "n"]) fun _ _ _ _ _ _ us hl => match us, hl with | [_, _, _], _ => rfl
  have o__law_one_round : Fn l.prog w K mg base fa0 7 "_law_one_round" 3 (pureF f__law_one_round) := ok__law_one_round F21 (PySem.W.mg_of X G a21) b21 (o__law_alike.mono (by decide)) (o__law_walk.mono (by decide)) (o_is_round_table.mono (by decide)) (o_joined_table.mono (by decide)) (o_rounds_of_table.mono (by decide)) (o_row_of_table.mono (by decide)) m_len m_range m_sorted m_tuple
  have b22 := F22.binds (ps := ["table"]) fun _ _ _ _ _ _ us hl => match us, hl with | [_], _ => rfl
  have o__law_rounds : Fn l.prog w K mg base fa0 2 "_law_rounds" 1 (pureF f__law_rounds) := ok__law_rounds F22 (PySem.W.mg_of X G a22) b22 (o__law_walk.mono (by decide)) m_len m_range
  have b23 := F23.binds (ps := ["n"]) fun _ _ _ _ _ _ us hl => match us, hl with | [_], _ => rfl
  have o_count_greatest_rounds : Fn l.prog w K mg base fa0 2 "count_greatest_rounds" 1 (pureF f_count_greatest_rounds) := ok_count_greatest_rounds F23 (PySem.W.mg_of X G a23) b23 (o_power_of.mono (by decide)) 
  exact (ok_law F24 (o__law_alike.mono (by decide)) (o__law_counted.mono (by decide)) (o__law_draw.mono (by decide)) (o__law_drawn.mono (by decide)) (o__law_feed.mono (by decide)) (o__law_joined.mono (by decide)) (o__law_one_round.mono (by decide)) (o__law_rounds.mono (by decide)) (o__law_tuples.mono (by decide)) (o__law_walk.mono (by decide)) (o_count_greatest_rounds.mono (by decide)) (o_is_round_table.mono (by decide)) (o_joined_table.mono (by decide)) (o_rounds_of_table.mono (by decide)) (o_row_of_table.mono (by decide)) (o_table_states.mono (by decide)) m_len m_list m_range).ok
end LK
open PySem PySem.W PyProof.Rows
set_option maxHeartbeats 0 in
theorem PySem.Challenge.cw_latewords_k69_whole_rounds_joined_holds : PySem.Challenge.rw_latewords_k69_whole_rounds_joined.Holds := by
  w_on; o_law; k_head; (case hw => w_witness2)
  k_fill
  refine L2.walk_of (l := PySem.Challenge.rw_latewords_k69_whole_rounds_joined) (n := 63) (k := 8) (x := "script") (CX := fun _ => L2.CX0) (sp := fun w => LK.spLaw _) rfl (by decide) rfl ⟨rfl, by decide, by decide⟩ (fun w h Y => PySem.W.kIn_of Y) ?F (fun _ _ a ns hl _ hS => LK.law_sp hS) (fun _ _ _ _ _ h => h)
  case F =>
    intro w mg fa h KX G hmg
    refine' LK.all_mk KX G hmg ?a1 ?l1 ?c1 ?k1 ?a2 ?l2 ?c2 ?k2 ?a3 ?l3 ?c3 ?k3 ?a4 ?l4 ?c4 ?k4 ?a5 ?l5 ?c5 ?k5 ?a6 ?l6 ?c6 ?k6 ?a7 ?l7 ?c7 ?k7 ?a8 ?l8 ?c8 ?k8 ?a9 ?l9 ?c9 ?k9 ?a10 ?l10 ?c10 ?k10 ?a11 ?l11 ?c11 ?k11 ?a12 ?l12 ?c12 ?k12 ?a13 ?l13 ?c13 ?k13 ?a14 ?l14 ?c14 ?k14 ?a15 ?l15 ?c15 ?k15 ?a16 ?l16 ?c16 ?k16 ?a17 ?l17 ?c17 ?k17 ?a18 ?l18 ?c18 ?k18 ?a19 ?l19 ?c19 ?k19 ?a20 ?l20 ?c20 ?k20 ?a21 ?l21 ?c21 ?k21 ?a22 ?l22 ?c22 ?k22 ?a23 ?l23 ?c23 ?k23 ?a24 ?l24 ?c24 ?k24 ?z_abs ?z_all ?z_bool ?z_int ?z_isinstance ?z_len ?z_list ?z_range ?z_sorted ?z_str ?z_tuple
    (case a1 => k_is); (case l1 => k_is); (case c1 => k_is); (case k1 => k_is); (case a2 => k_is); (case l2 => k_is); (case c2 => k_is); (case k2 => k_is); (case a3 => k_is); (case l3 => k_is); (case c3 => k_is); (case k3 => k_is); (case a4 => k_is); (case l4 => k_is); (case c4 => k_is); (case k4 => k_is); (case a5 => k_is); (case l5 => k_is); (case c5 => k_is); (case k5 => k_is); (case a6 => k_is); (case l6 => k_is); (case c6 => k_is); (case k6 => k_is); (case a7 => k_is); (case l7 => k_is); (case c7 => k_is); (case k7 => k_is); (case a8 => k_is); (case l8 => k_is); (case c8 => k_is); (case k8 => k_is); (case a9 => k_is); (case l9 => k_is); (case c9 => k_is); (case k9 => k_is); (case a10 => k_is); (case l10 => k_is); (case c10 => k_is); (case k10 => k_is); (case a11 => k_is); (case l11 => k_is); (case c11 => k_is); (case k11 => k_is); (case a12 => k_is); (case l12 => k_is); (case c12 => k_is); (case k12 => k_is); (case a13 => k_is); (case l13 => k_is); (case c13 => k_is); (case k13 => k_is); (case a14 => k_is); (case l14 => k_is); (case c14 => k_is); (case k14 => k_is); (case a15 => k_is); (case l15 => k_is); (case c15 => k_is); (case k15 => k_is); (case a16 => k_is); (case l16 => k_is); (case c16 => k_is); (case k16 => k_is); (case a17 => k_is); (case l17 => k_is); (case c17 => k_is); (case k17 => k_is); (case a18 => k_is); (case l18 => k_is); (case c18 => k_is); (case k18 => k_is); (case a19 => k_is); (case l19 => k_is); (case c19 => k_is); (case k19 => k_is); (case a20 => k_is); (case l20 => k_is); (case c20 => k_is); (case k20 => k_is); (case a21 => k_is); (case l21 => k_is); (case c21 => k_is); (case k21 => k_is); (case a22 => k_is); (case l22 => k_is); (case c22 => k_is); (case k22 => k_is); (case a23 => k_is); (case l23 => k_is); (case c23 => k_is); (case k23 => k_is); (case a24 => k_is); (case l24 => k_is); (case c24 => k_is); (case k24 => k_is); (case z_abs => k_is); (case z_all => k_is); (case z_bool => k_is); (case z_int => k_is); (case z_isinstance => k_is); (case z_len => k_is); (case z_list => k_is); (case z_range => k_is); (case z_sorted => k_is); (case z_str => k_is); (case z_tuple => k_is)
