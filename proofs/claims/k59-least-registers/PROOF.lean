import PyProof.Rows.All
import Wide.All
import OpenK.AllK
import Wide.FinOn
import HandS.ForMost
import HandS.EndBits
import HandS.Wide
import HandS.WideMore
import HandS.TupAny
import HandS.TupMul
import HandS.Conv
import HandS.Deep
import HandS.DictTup
import HandS.SortOrd
import HandS.IsInst
import HandS.TupLe
import HandS.Codes
import HandS.Zip
import HandS.RevRange
import HandS.SortInts
import HandS.SetFor
import HandS.SortRule
import HandS.Strs
import HandS.TupSets
import PySem.Challenge.RW_latewords_k59_least_registers
set_option Elab.async false
set_option linter.all false
set_option maxRecDepth 100000
/-! trees of plain values, and what stands for them in the abstract heap -/
namespace LW
open PySem PySem.Spec PyProof.Rows L2

inductive T where
  | non | bl (b : Bool) | int (i : Int) | str (x : Str) | lst (xs : List T) | tup (xs : List T) | lkl (xs : List T) | fn (k : Nat) | dic (lk : Bool) (ks : List Key) (xs : List T) | ins (nm : List Str) (xs : List T)
  deriving Inhabited

mutual
inductive Rep (K : PySem.W.Frag) (fa : Nat → Addr) (G : Hp) : V → T → Prop
  | non : Rep K fa G .non .non
  | bl (b : Bool) : Rep K fa G (.bl b) (.bl b)
  | int (i : Int) : Rep K fa G (.int i) (.int i)
  | str (x : Str) : Rep K fa G (.str x) (.str x)
  | lst {a : Addr} {vs : List V} {ts : List T} : G a = some (.lst vs) → RepAll K fa G vs ts → Rep K fa G (.ref a) (.lst ts)
  | tup {a : Addr} {vs : List V} {ts : List T} : G a = some (.tup vs) → RepAll K fa G vs ts → Rep K fa G (.ref a) (.tup ts)
  | lkl {a : Addr} {vs : List V} {ts : List T} : SqL K G a vs → RepAll K fa G vs ts → Rep K fa G (.ref a) (.lkl ts)
  | fn (k : Nat) : Rep K fa G (.ref (fa k)) (.fn k)
  | dic {lk : Bool} {a : Addr} {vs : List (Key × V)} {ks : List Key} {ts : List T} : Rd G a (.dK vs) → (lk = true → ∃ o, G a = some (.frz o (.dK vs))) → vs.map (·.1) = ks → RepAll K fa G (vs.map (·.2)) ts → Rep K fa G (.ref a) (.dic lk ks ts)
  | ins {a C dx : Addr} {fl : List (Str × V)} {nm : List Str} {ts : List T} : G a = some (.ins C dx fl) → Cls K C → (∀ m ∈ nm, NoAttr K C m) → fl.map (·.1) = nm → RepAll K fa G (fl.map (·.2)) ts → Rep K fa G (.ref a) (.ins nm ts)
inductive RepAll (K : PySem.W.Frag) (fa : Nat → Addr) (G : Hp) : List V → List T → Prop
  | nil : RepAll K fa G [] []
  | cons {v : V} {vs : List V} {t : T} {ts : List T} : Rep K fa G v t → RepAll K fa G vs ts → RepAll K fa G (v :: vs) (t :: ts)
end

theorem same_sqT {K : PySem.W.Frag} {H H' : Hp} {a : Addr} {xs : List V} (e : Same H H') (h : SqT K H a xs) : SqT K H' a xs := by
  rcases h with (h | ⟨o, h⟩) | h
  · exact .inl (.inl (e _ _ h))
  · exact .inl (.inr ⟨o, e _ _ h⟩)
  · exact .inr h

section
variable {K : PySem.W.Frag} {fa : Nat → Addr} {G G' H H' : Hp}
mutual
theorem Rep.mono (s : Same G G') : ∀ {t : T} {v : V}, Rep K fa G v t → Rep K fa G' v t
  | .non, _, h => by cases h; exact .non
  | .bl b, _, h => by cases h; exact .bl b
  | .int i, _, h => by cases h; exact .int i
  | .str x, _, h => by cases h; exact .str x
  | .lst ts, _, h => by
    cases h with
    | lst e r => exact .lst (s _ _ e) (RepAll.mono s r)
  | .tup ts, _, h => by
    cases h with
    | tup e r => exact .tup (s _ _ e) (RepAll.mono s r)
  | .lkl ts, _, h => by
    cases h with
    | lkl e r => exact .lkl (s.seq e) (RepAll.mono s r)
  | .fn k, _, h => by cases h; exact .fn k
  | .dic lk ks ts, _, h => by
    cases h with
    | dic e f q r => exact .dic (e.elim (fun e => .inl (s _ _ e)) fun ⟨o, e⟩ => .inr ⟨o, s _ _ e⟩) (fun z => let ⟨o, e⟩ := f z; ⟨o, s _ _ e⟩) q (RepAll.mono s r)
  | .ins nm ts, _, h => by
    cases h with
    | ins e c n q r => exact .ins (s _ _ e) c n q (RepAll.mono s r)
theorem RepAll.mono (s : Same G G') : ∀ {ts : List T} {vs : List V}, RepAll K fa G vs ts → RepAll K fa G' vs ts
  | [], _, h => by cases h; exact .nil
  | t :: ts, _, h => by
    cases h with
    | cons a b => exact .cons (Rep.mono s a) (RepAll.mono s b)
end
theorem RepAll.length : ∀ {ts : List T} {vs : List V}, RepAll K fa G vs ts → vs.length = ts.length
  | [], _, h => by cases h; rfl
  | t :: ts, _, h => by
    cases h with
    | cons a b => simp [RepAll.length b]
theorem RepAll.get : ∀ {ts : List T} {vs : List V} {i : Nat} {t : T}, RepAll K fa G vs ts → ts[i]? = some t → ∃ v, vs[i]? = some v ∧ Rep K fa G v t
  | [], _, _, _, h, e => by simp at e
  | t :: ts, _, 0, _, h, e => by
    cases h with
    | cons a b => simp at e; subst e; exact ⟨_, by simp, a⟩
  | t :: ts, _, i + 1, _, h, e => by
    cases h with
    | cons a b =>
      obtain ⟨v, h1, h2⟩ := RepAll.get (i := i) b (by simpa using e)
      exact ⟨v, by simpa using h1, h2⟩
theorem RepAll.append : ∀ {ts us : List T} {vs ws : List V}, RepAll K fa G vs ts → RepAll K fa G ws us → RepAll K fa G (vs ++ ws) (ts ++ us)
  | [], _, _, _, h, g => by cases h; exact g
  | t :: ts, _, _, _, h, g => by
    cases h with
    | cons a b => exact .cons a (RepAll.append b g)
theorem RepAll.one {v : V} {t : T} (h : Rep K fa G v t) : RepAll K fa G [v] [t] := .cons h .nil
theorem RepAll.take : ∀ {ts : List T} {vs : List V} (n : Nat), RepAll K fa G vs ts → RepAll K fa G (vs.take n) (ts.take n)
  | _, _, 0, _ => by simpa using RepAll.nil
  | [], _, n + 1, h => by cases h; exact .nil
  | t :: ts, _, n + 1, h => by
    cases h with
    | cons a b => exact .cons a (RepAll.take n b)
theorem RepAll.drop : ∀ {ts : List T} {vs : List V} (n : Nat), RepAll K fa G vs ts → RepAll K fa G (vs.drop n) (ts.drop n)
  | _, _, 0, h => h
  | [], _, n + 1, h => by cases h; exact .nil
  | t :: ts, _, n + 1, h => by
    cases h with
    | cons a b => exact RepAll.drop n b
theorem RepAll.set : ∀ {ts : List T} {vs : List V} {v : V} {t : T} (n : Nat), RepAll K fa G vs ts → Rep K fa G v t → RepAll K fa G (vs.set n v) (ts.set n t)
  | [], _, _, _, _, h, _ => by cases h; exact .nil
  | t :: ts, _, _, _, 0, h, g => by
    cases h with
    | cons a b => exact .cons g b
  | t :: ts, _, _, _, n + 1, h, g => by
    cases h with
    | cons a b => exact .cons a (RepAll.set n b g)
theorem RepAll.dropLast {ts : List T} {vs : List V} (h : RepAll K fa G vs ts) : RepAll K fa G vs.dropLast ts.dropLast := by
  rw [List.dropLast_eq_take, List.dropLast_eq_take, h.length]
  exact h.take _
theorem RepAll.rev {ts : List T} {vs : List V} (h : RepAll K fa G vs ts) : RepAll K fa G vs.reverse ts.reverse := by
  induction ts generalizing vs with
  | nil => cases h; exact .nil
  | cons t ts ih =>
    cases h with
    | cons a b => rw [List.reverse_cons, List.reverse_cons]; exact (ih b).append (.one a)
theorem RepAll.of_get : ∀ {ts : List T} {vs : List V}, vs.length = ts.length → (∀ (i : Nat) (v : V) (t : T), vs[i]? = some v → ts[i]? = some t → Rep K fa G v t) → RepAll K fa G vs ts
  | [], [], _, _ => .nil
  | t :: ts, v :: vs, hl, h => .cons (h 0 v t rfl rfl) (RepAll.of_get (by simpa using hl) fun i v' t' a b => h (i + 1) v' t' (by simpa using a) (by simpa using b))
  | [], _ :: _, hl, _ => by simp at hl
  | _ :: _, [], hl, _ => by simp at hl
theorem RepAll.flatten_rep {ts : List T} {vs : List V} (h : RepAll K fa G vs ts) : ∀ n : Nat, RepAll K fa G (List.replicate n vs).flatten (List.replicate n ts).flatten
  | 0 => .nil
  | n + 1 => by rw [List.replicate_succ, List.replicate_succ, List.flatten_cons, List.flatten_cons]; exact h.append (RepAll.flatten_rep h n)
theorem RepAll.ints : ∀ {vs : List V} {ns : List Int}, RepAll K fa G vs (ns.map T.int) → vs = ns.map V.int
  | _, [], h => by cases h; rfl
  | _, n :: ns, h => by
    cases h with
    | cons a b => cases a; rw [RepAll.ints b]; rfl
theorem RepAll.of_ints : ∀ (ns : List Int), RepAll K fa G (ns.map V.int) (ns.map T.int)
  | [] => .nil
  | n :: ns => .cons (.int n) (RepAll.of_ints ns)
theorem RepAll.bls : ∀ {vs : List V} {ns : List Bool}, RepAll K fa G vs (ns.map T.bl) → vs = ns.map V.bl
  | _, [], h => by cases h; rfl
  | _, n :: ns, h => by
    cases h with
    | cons a b => cases a; rw [RepAll.bls b]; rfl
theorem RepAll.strs : ∀ {vs : List V} {ns : List Str}, RepAll K fa G vs (ns.map T.str) → vs = ns.map V.str
  | _, [], h => by cases h; rfl
  | _, n :: ns, h => by
    cases h with
    | cons a b => cases a; rw [RepAll.strs b]; rfl
end

/-! ### what a slot holds -/
/-- the content of an object that one slot alone knows -/
inductive OC where
  | lst (xs : List T) | dK (ks : List (Key × T)) | dT (ks : List (List Key × T))
inductive L where
  | un | t (x : T) | own (c : OC) | ref (i : Nat)
abbrev REnv := List L

section
variable (K : PySem.W.Frag) (fa : Nat → Addr)
def ORep (G : Hp) : HO → OC → Prop
  | .lst vs, .lst ts => RepAll K fa G vs ts
  | .dK vs, .dK ts => Paired (fun p q => p.1 = q.1 ∧ Rep K fa G p.2 q.2) vs ts
  | .dT vs, .dT ts => Paired (fun p q => p.1 = q.1 ∧ Rep K fa G p.2 q.2) vs ts
  | _, _ => False
/-- the addresses of the objects that slots own -/
def Cl (σ : L2.St) (ρ : REnv) (a : Addr) : Prop := ∃ (i : Nat) (c : OC), ρ[i]? = some (L.own c) ∧ σ[i]? = some (some (V.ref a))
structure EnvOk (G H : Hp) (σ : L2.St) (ρ : REnv) : Prop where
  same : Same G H
  len : ρ.length = σ.length
  t : ∀ (i : Nat) (x : T), ρ[i]? = some (L.t x) → ∃ v, σ[i]? = some (some v) ∧ Rep K fa G v x
  own : ∀ (i : Nat) (c : OC), ρ[i]? = some (L.own c) → ∃ a o, σ[i]? = some (some (V.ref a)) ∧ G a = none ∧ H a = some o ∧ ORep K fa G o c
  inj : ∀ (i j : Nat) (c c' : OC) (a : Addr), ρ[i]? = some (L.own c) → ρ[j]? = some (L.own c') → σ[i]? = some (some (V.ref a)) → σ[j]? = some (some (V.ref a)) → i = j
def LRep (G H : Hp) (C : Addr → Prop) (σ : L2.St) : V → L → Prop
  | _, .un => False
  | v, .t x => Rep K fa G v x
  | v, .own c => ∃ a o, v = .ref a ∧ G a = none ∧ ¬ C a ∧ H a = some o ∧ ORep K fa G o c
  | v, .ref i => σ[i]? = some (some v)
end
/-- a result that is an object of its own is new -/
def NewL (H : Hp) (v : V) : L → Prop
  | .own _ => ∀ a, v = .ref a → H a = none
  | _ => True
structure Aft (C C' : Addr → Prop) (G H G' H' : Hp) : Prop where
  gg : Same G G'
  keep : ∀ a o, H a = some o → ¬ C a → H' a = some o
  gn : ∀ a o, H a = some o → ¬ C a → G a = none → G' a = none
  there : ∀ a, H' a = none → H a = none
  cs : ∀ a, C' a → C a ∨ H a = none
theorem Aft.refl {C : Addr → Prop} {G H : Hp} : Aft C C G H G H := ⟨Same.refl _, fun _ _ h _ => h, fun _ _ _ _ h => h, fun _ h => h, fun _ h => .inl h⟩
theorem Aft.trans {C C1 C2 : Addr → Prop} {G H G1 H1 G2 H2 : Hp} (a : Aft C C1 G H G1 H1) (b : Aft C1 C2 G1 H1 G2 H2) : Aft C C2 G H G2 H2 := by
  have nc : ∀ p o, H p = some o → ¬ C p → ¬ C1 p := fun p o e n c => by
    rcases a.cs p c with z | z
    · exact n z
    · rw [e] at z; cases z
  refine ⟨a.gg.trans b.gg, fun p o e n => b.keep p o (a.keep p o e n) (nc p o e n), fun p o e n g => b.gn p o (a.keep p o e n) (nc p o e n) (a.gn p o e n g), fun p h => a.there p (b.there p h), fun p c => ?_⟩
  rcases b.cs p c with z | z
  · exact a.cs p z
  · exact .inr (a.there p z)
theorem Aft.ne {C C' : Addr → Prop} {G H G' H' : Hp} (a : Aft C C' G H G' H') {p : Addr} {o : HO} (e : H p = some o) (n : ¬ C p) : ¬ C' p := fun c => by
  rcases a.cs p c with z | z
  · exact n z
  · rw [e] at z; cases z

section
variable {K : PySem.W.Frag} {fa : Nat → Addr} {G G' H H' : Hp} {σ : L2.St} {ρ ρ' : REnv} {C C' : Addr → Prop}
theorem ORep.mono (s : Same G G') : ∀ {o : HO} {c : OC}, ORep K fa G o c → ORep K fa G' o c := by
  intro o c h
  cases o <;> cases c <;> first
    | exact (show False from h).elim
    | exact RepAll.mono s h
    | exact Paired.mapP h fun _ _ q => ⟨q.1, q.2.mono s⟩
theorem LRep.aft {v : V} {l : L} (h : LRep K fa G H C σ v l) (a : Aft C C' G H G' H') : LRep K fa G' H' C' σ v l := by
  cases l with
  | un => exact h
  | t x => exact Rep.mono a.gg h
  | own c =>
    obtain ⟨p, o, e, g, n, hh, r⟩ := h
    exact ⟨p, o, e, a.gn p o hh n g, a.ne hh n, a.keep p o hh n, r.mono a.gg⟩
  | ref i => exact h
theorem NewL.aft {v : V} {l : L} (h : NewL H' v l) (a : Aft C C' G H G' H') : NewL H v l := by
  cases l with
  | own c => exact fun p e => a.there p (h p e)
  | _ => trivial
theorem NewL.t {v : V} {x : T} : NewL H v (.t x) := trivial
/-- a new list becomes a tree: the frozen part grows by it -/
theorem frz {G0 H0 : Hp} {C0 : Addr → Prop} {v : V} {ts : List T} (E : EnvOk K fa G H σ ρ) (h : LRep K fa G H (Cl σ ρ) σ v (.own (.lst ts))) (nw : NewL H0 v (.own (.lst ts))) (a : Aft C0 (Cl σ ρ) G0 H0 G H) :
    ∃ G', EnvOk K fa G' H σ ρ ∧ Rep K fa G' v (.lst ts) ∧ Aft C0 (Cl σ ρ) G0 H0 G' H ∧ Same G G' ∧ ∀ b, v ≠ .ref b → G' b = G b := by
  obtain ⟨p, o, rfl, g, n, hh, r⟩ := h
  cases o with
  | lst vs =>
    have r : RepAll K fa G vs ts := r
    have sm : Same G (upd G p (.lst vs)) := fun b u e => by rw [upd_ne (ne_of_none e g)]; exact e
    refine ⟨upd G p (.lst vs), ⟨fun b u e => ?_, E.len, fun i x e => ?_, fun i c e => ?_, E.inj⟩, .lst upd_same (r.mono sm), ⟨a.gg.trans sm, a.keep, fun b u e nc gb => ?_, a.there, a.cs⟩, sm, fun b hb => ?_⟩
    · by_cases hb : b = p
      · subst hb; rw [upd_same] at e; cases e; exact hh
      · rw [upd_ne hb] at e; exact E.same b u e
    · obtain ⟨v, e1, e2⟩ := E.t i x e
      exact ⟨v, e1, e2.mono sm⟩
    · obtain ⟨q, u, e1, e2, e3, e4⟩ := E.own i c e
      refine ⟨q, u, e1, ?_, e3, e4.mono sm⟩
      rw [upd_ne (show q ≠ p from fun z => n (z ▸ ⟨i, c, e, e1⟩))]
      exact e2
    · have hb : b ≠ p := fun z => by subst z; rw [nw b rfl] at e; cases e
      rw [upd_ne hb]
      exact a.gn b u e nc gb
    · rw [upd_ne (fun z => hb (by rw [z]))]
  | _ => exact (show False from r).elim
end
/-- a result as a tree -/
def L.tree : L → Option T
  | .t x => some x
  | .own (.lst xs) => some (.lst xs)
  | _ => none
section
variable {K : PySem.W.Frag} {fa : Nat → Addr} {G G' H H' : Hp} {σ : L2.St} {ρ ρ' : REnv} {C C' : Addr → Prop}
theorem toTree {G0 H0 : Hp} {C0 : Addr → Prop} {v : V} {l : L} {x : T} (E : EnvOk K fa G H σ ρ) (h : LRep K fa G H (Cl σ ρ) σ v l) (nw : NewL H0 v l) (a : Aft C0 (Cl σ ρ) G0 H0 G H) (e : l.tree = some x) :
    ∃ G', EnvOk K fa G' H σ ρ ∧ Rep K fa G' v x ∧ Aft C0 (Cl σ ρ) G0 H0 G' H ∧ Same G G' ∧ ∀ b, (v ≠ .ref b ∨ ∃ y, l = .t y) → G' b = G b := by
  cases l with
  | t y => cases e; exact ⟨G, E, h, a, Same.refl _, fun _ _ => rfl⟩
  | own c =>
    cases c with
    | lst ts =>
      cases e
      obtain ⟨G', h1, h2, h3, h4, h5⟩ := frz E h nw a
      exact ⟨G', h1, h2, h3, h4, fun b hb => hb.elim (h5 b) fun ⟨y, z⟩ => by cases z⟩
    | _ => cases e
  | _ => cases e
/-- what a list operand holds -/
def L.lview (ρ : REnv) : L → Option (List T)
  | .t (.lst xs) => some xs
  | .own (.lst xs) => some xs
  | .ref i => match ρ[i]? with
    | some (.own (.lst xs)) => some xs
    | _ => none
  | _ => none
theorem lview_ok {v : V} {l : L} {xs : List T} (E : EnvOk K fa G H σ ρ) (h : LRep K fa G H C σ v l) (e : l.lview ρ = some xs) : ∃ a vs, v = .ref a ∧ H a = some (.lst vs) ∧ RepAll K fa G vs xs := by
  cases l with
  | un => cases e
  | t y =>
    cases y with
    | lst ys =>
      cases e
      cases (show Rep K fa G v _ from h) with
      | lst g r => exact ⟨_, _, rfl, E.same _ _ g, r⟩
    | _ => cases e
  | own c =>
    cases c with
    | lst ys =>
      cases e
      obtain ⟨p, o, rfl, g, n, hh, r⟩ := h
      cases o with
      | lst vs => exact ⟨p, vs, rfl, hh, r⟩
      | _ => exact (show False from r).elim
    | _ => cases e
  | ref i =>
    cases q : ρ[i]? with
    | none => simp only [L.lview, q] at e; cases e
    | some m =>
      simp only [L.lview, q] at e
      cases m with
      | own c =>
        cases c with
        | lst ys =>
          cases e
          obtain ⟨a, o, e1, e2, e3, e4⟩ := E.own i _ q
          have e5 : σ[i]? = some (some v) := h
          rw [e1] at e5; cases e5
          cases o with
          | lst vs => exact ⟨a, vs, rfl, e3, e4⟩
          | _ => exact (show False from e4).elim
        | _ => cases e
      | _ => cases e
/-- a result looked at as a tree, over the heap itself -/
def L.view (ρ : REnv) : L → Option T
  | .t x => some x
  | .own (.lst xs) => some (.lst xs)
  | .ref i => match ρ[i]? with
    | some (.own (.lst xs)) => some (.lst xs)
    | _ => none
  | _ => none
theorem view_ok {v : V} {l : L} {x : T} (E : EnvOk K fa G H σ ρ) (h : LRep K fa G H C σ v l) (e : l.view ρ = some x) : Rep K fa H v x := by
  cases l with
  | un => cases e
  | t y => cases e; exact Rep.mono E.same h
  | own c =>
    cases c with
    | lst ys =>
      cases e
      obtain ⟨a, vs, rfl, h1, h2⟩ := lview_ok (xs := ys) E h rfl
      exact .lst h1 (h2.mono E.same)
    | _ => cases e
  | ref i =>
    cases q : ρ[i]? with
    | none => simp only [L.view, q] at e; cases e
    | some m =>
      simp only [L.view, q] at e
      cases m with
      | own c =>
        cases c with
        | lst ys =>
          cases e
          obtain ⟨a, vs, rfl, h1, h2⟩ := lview_ok (xs := ys) E h (by simp only [L.lview, q])
          exact .lst h1 (h2.mono E.same)
        | _ => cases e
      | _ => cases e
end

/-! ### an expression's meaning -/
abbrev Den := REnv → Option (L × REnv)
/-- what is known behind an expression -/
structure Post (K : PySem.W.Frag) (fa : Nat → Addr) (G H : Hp) (σ : L2.St) (ρ : REnv) (l : L) (ρ' : REnv) (v : V) (G' H' : Hp) : Prop where
  aft : Aft (Cl σ ρ) (Cl σ ρ') G H G' H'
  env : EnvOk K fa G' H' σ ρ'
  rep : LRep K fa G' H' (Cl σ ρ') σ v l
  new : NewL H v l
def SE (X : Cx) (fa : Nat → Addr) (e : Expr) (d : Den) : Prop :=
  ∃ t : TE, PE X e t ∧ ∀ (σ : L2.St) (G H : Hp) (ρ : REnv) (l : L) (ρ' : REnv) (Q : VK), EnvOk X.K fa G H σ ρ → d ρ = some (l, ρ') →
    (∀ v G' H', Post X.K fa G H σ ρ l ρ' v G' H' → Q v H') → t σ H Q
end LW
namespace LW
open PySem PySem.Spec PyProof.Rows L2

/-! ### from a start -/
structure At (K : PySem.W.Frag) (fa : Nat → Addr) (C0 : Addr → Prop) (G0 H0 G H : Hp) (σ : L2.St) (ρ : REnv) : Prop where
  env : EnvOk K fa G H σ ρ
  aft : Aft C0 (Cl σ ρ) G0 H0 G H
section
variable {K : PySem.W.Frag} {fa : Nat → Addr} {C0 : Addr → Prop} {G0 H0 G H G' H' : Hp} {σ : L2.St} {ρ ρ' : REnv}
theorem At.start (E : EnvOk K fa G H σ ρ) : At K fa (Cl σ ρ) G H G H σ ρ := ⟨E, Aft.refl⟩
theorem At.noCl (A : At K fa C0 G0 H0 G H σ ρ) {p : Addr} (h : H p = none) : ¬ Cl σ ρ p := fun ⟨i, c, e1, e2⟩ => by
  obtain ⟨a, o, f1, f2, f3, f4⟩ := A.env.own i c e1
  rw [e2] at f1; cases f1
  rw [h] at f3; cases f3
theorem At.gnone (A : At K fa C0 G0 H0 G H σ ρ) {p : Addr} (h : H p = none) : G p = none := A.env.same.free h
theorem At.alloc (A : At K fa C0 G0 H0 G H σ ρ) {p : Addr} {o : HO} (h : H p = none) : At K fa C0 G0 H0 G (upd H p o) σ ρ := by
  have sm : Same H (upd H p o) := fun b u e => by rw [upd_ne (ne_of_none e h)]; exact e
  have nc := A.noCl h
  refine ⟨⟨A.env.same.trans sm, A.env.len, A.env.t, fun i c e => ?_, A.env.inj⟩, ⟨A.aft.gg, fun b u e n => sm _ _ (A.aft.keep b u e n), A.aft.gn, fun b e => ?_, A.aft.cs⟩⟩
  · obtain ⟨a, u, e1, e2, e3, e4⟩ := A.env.own i c e
    exact ⟨a, u, e1, e2, sm _ _ e3, e4⟩
  · by_cases hb : b = p
    · subst hb; rw [upd_same] at e; cases e
    · rw [upd_ne hb] at e; exact A.aft.there b e
theorem At.frz (A : At K fa C0 G0 H0 G H σ ρ) {p : Addr} {o : HO} (h : H p = some o) (g : G p = none) (n : ¬ Cl σ ρ p) (nw : H0 p = none) : At K fa C0 G0 H0 (upd G p o) H σ ρ := by
  have sm : Same G (upd G p o) := fun b u e => by rw [upd_ne (ne_of_none e g)]; exact e
  refine ⟨⟨fun b u e => ?_, A.env.len, fun i x e => ?_, fun i c e => ?_, A.env.inj⟩, ⟨A.aft.gg.trans sm, A.aft.keep, fun b u e nc gb => ?_, A.aft.there, A.aft.cs⟩⟩
  · by_cases hb : b = p
    · subst hb; rw [upd_same] at e; cases e; exact h
    · rw [upd_ne hb] at e; exact A.env.same b u e
  · obtain ⟨v, e1, e2⟩ := A.env.t i x e
    exact ⟨v, e1, e2.mono sm⟩
  · obtain ⟨q, u, e1, e2, e3, e4⟩ := A.env.own i c e
    refine ⟨q, u, e1, ?_, e3, e4.mono sm⟩
    rw [upd_ne (show q ≠ p from fun z => n (z ▸ ⟨i, c, e, e1⟩))]
    exact e2
  · rw [upd_ne (show b ≠ p from fun z => by subst z; rw [nw] at e; cases e)]
    exact A.aft.gn b u e nc gb
/-- a new tuple -/
theorem At.newTup (A : At K fa C0 G0 H0 G H σ ρ) {p : Addr} {vs : List V} {ts : List T} (h : H p = none) (r : RepAll K fa G vs ts) :
    At K fa C0 G0 H0 (upd G p (.tup vs)) (upd H p (.tup vs)) σ ρ ∧ Rep K fa (upd G p (.tup vs)) (.ref p) (.tup ts) := by
  have g := A.gnone h
  have sm : Same G (upd G p (.tup vs)) := fun b u e => by rw [upd_ne (ne_of_none e g)]; exact e
  exact ⟨(A.alloc h).frz upd_same g (A.noCl h) (A.aft.there p h), .tup upd_same (r.mono sm)⟩
/-- a new list -/
theorem At.newOwn (A : At K fa C0 G0 H0 G H σ ρ) {p : Addr} {o : HO} {c : OC} (h : H p = none) (r : ORep K fa G o c) :
    At K fa C0 G0 H0 G (upd H p o) σ ρ ∧ LRep K fa G (upd H p o) (Cl σ ρ) σ (.ref p) (.own c) ∧ NewL H0 (.ref p) (.own c) :=
  ⟨A.alloc h, ⟨p, o, rfl, A.gnone h, A.noCl h, upd_same, r⟩, fun a e => by cases e; exact A.aft.there p h⟩
theorem At.newLst (A : At K fa C0 G0 H0 G H σ ρ) {p : Addr} {vs : List V} {ts : List T} (h : H p = none) (r : RepAll K fa G vs ts) :
    At K fa C0 G0 H0 G (upd H p (.lst vs)) σ ρ ∧ LRep K fa G (upd H p (.lst vs)) (Cl σ ρ) σ (.ref p) (.own (.lst ts)) ∧ NewL H0 (.ref p) (.own (.lst ts)) := A.newOwn (c := .lst ts) h r
end

/-- two operands at hand -/
structure Ops2 (K : PySem.W.Frag) (fa : Nat → Addr) (C0 : Addr → Prop) (G0 H0 G H : Hp) (σ : L2.St) (ρ : REnv) (v1 : V) (l1 : L) (v2 : V) (l2 : L) : Prop extends At K fa C0 G0 H0 G H σ ρ where
  r1 : LRep K fa G H (Cl σ ρ) σ v1 l1
  n1 : NewL H0 v1 l1
  r2 : LRep K fa G H (Cl σ ρ) σ v2 l2
  n2 : NewL H0 v2 l2
structure Ops1 (K : PySem.W.Frag) (fa : Nat → Addr) (C0 : Addr → Prop) (G0 H0 G H : Hp) (σ : L2.St) (ρ : REnv) (v1 : V) (l1 : L) : Prop extends At K fa C0 G0 H0 G H σ ρ where
  r1 : LRep K fa G H (Cl σ ρ) σ v1 l1
  n1 : NewL H0 v1 l1
/-- what a rule for two operands has to give -/
def OpT (K : PySem.W.Frag) (fa : Nat → Addr) (r : R2) (g : REnv → L → L → Option L) : Prop :=
  ∀ (C0 : Addr → Prop) (G0 H0 G H : Hp) (σ : L2.St) (ρ : REnv) (v1 v2 : V) (l1 l2 l : L) (Q : VK), Ops2 K fa C0 G0 H0 G H σ ρ v1 l1 v2 l2 → g ρ l1 l2 = some l →
    (∀ v G' H', Ops1 K fa C0 G0 H0 G' H' σ ρ v l → Q v H') → r v1 v2 H Q
def UnT (K : PySem.W.Frag) (fa : Nat → Addr) (r : V → Hp → VK → Prop) (g : REnv → L → Option L) : Prop :=
  ∀ (C0 : Addr → Prop) (G0 H0 G H : Hp) (σ : L2.St) (ρ : REnv) (v1 : V) (l1 l : L) (Q : VK), Ops1 K fa C0 G0 H0 G H σ ρ v1 l1 → g ρ l1 = some l →
    (∀ v G' H', Ops1 K fa C0 G0 H0 G' H' σ ρ v l → Q v H') → r v1 H Q

def den1 (g : REnv → L → Option L) (d : Den) : Den := fun ρ => (d ρ).bind fun p => (g p.2 p.1).map fun l => (l, p.2)
def den2 (g : REnv → L → L → Option L) (d1 d2 : Den) : Den := fun ρ => (d1 ρ).bind fun p => (d2 p.2).bind fun q => (g q.2 p.1 q.1).map fun l => (l, q.2)

section
variable {X : Cx} {fa : Nat → Addr} {e a b c : Expr} {d d1 d2 : Den}
theorem Post.ops1 {K : PySem.W.Frag} {G H G' H' : Hp} {σ : L2.St} {ρ ρ' : REnv} {l : L} {v : V} (p : Post K fa G H σ ρ l ρ' v G' H') : Ops1 K fa (Cl σ ρ) G H G' H' σ ρ' v l := ⟨⟨p.env, p.aft⟩, p.rep, p.new⟩
theorem Ops1.post {K : PySem.W.Frag} {G H G' H' : Hp} {σ : L2.St} {ρ ρ' : REnv} {l : L} {v : V} (p : Ops1 K fa (Cl σ ρ) G H G' H' σ ρ' v l) : Post K fa G H σ ρ l ρ' v G' H' := ⟨p.aft, p.env, p.r1, p.n1⟩
/-- a second expression behind a first one -/
theorem Post.then2 {K : PySem.W.Frag} {G H G1 H1 G2 H2 : Hp} {σ : L2.St} {ρ ρ1 ρ2 : REnv} {l1 l2 : L} {v1 v2 : V} (p : Post K fa G H σ ρ l1 ρ1 v1 G1 H1) (q : Post K fa G1 H1 σ ρ1 l2 ρ2 v2 G2 H2) :
    Ops2 K fa (Cl σ ρ) G H G2 H2 σ ρ2 v1 l1 v2 l2 := ⟨⟨q.env, p.aft.trans q.aft⟩, p.rep.aft q.aft, p.new, q.rep, q.new.aft p.aft⟩
theorem SE.un {r : V → Hp → VK → Prop} {g : REnv → L → Option L} (h1 : SE X fa a d) (hp : ∀ ta, PE X a ta → PE X e (tUn r ta)) (ho : UnT X.K fa r g) : SE X fa e (den1 g d) := by
  obtain ⟨ta, pa, ra⟩ := h1
  refine ⟨_, hp ta pa, fun σ G H ρ l ρ' Q E hd k => ?_⟩
  cases q : d ρ with
  | none => simp [den1, q] at hd
  | some p =>
    cases q2 : g p.2 p.1 with
    | none => simp [den1, q, q2] at hd
    | some l' =>
      simp [den1, q, q2] at hd
      obtain ⟨rfl, rfl⟩ := hd
      refine ra σ G H ρ p.1 p.2 _ E q fun v1 G1 H1 P1 => ?_
      exact ho _ _ _ _ _ _ _ _ _ _ _ P1.ops1 q2 fun v G' H' R => k v G' H' R.post
theorem SE.two {r : R2} {g : REnv → L → L → Option L} (h1 : SE X fa a d1) (h2 : SE X fa b d2) (hp : ∀ ta tb, PE X a ta → PE X b tb → PE X e (tOp r ta tb)) (ho : OpT X.K fa r g) : SE X fa e (den2 g d1 d2) := by
  obtain ⟨ta, pa, ra⟩ := h1
  obtain ⟨tb, pb, rb⟩ := h2
  refine ⟨_, hp ta tb pa pb, fun σ G H ρ l ρ' Q E hd k => ?_⟩
  cases q : d1 ρ with
  | none => simp [den2, q] at hd
  | some p =>
    cases q1 : d2 p.2 with
    | none => simp [den2, q, q1] at hd
    | some p' =>
      cases q2 : g p'.2 p.1 p'.1 with
      | none => simp [den2, q, q1, q2] at hd
      | some l' =>
        simp [den2, q, q1, q2] at hd
        obtain ⟨rfl, rfl⟩ := hd
        refine ra σ G H ρ p.1 p.2 _ E q fun v1 G1 H1 P1 => ?_
        refine rb σ G1 H1 p.2 p'.1 p'.2 _ P1.env q1 fun v2 G2 H2 P2 => ?_
        exact ho _ _ _ _ _ _ _ _ _ _ _ _ _ (P1.then2 P2) q2 fun v G' H' R => k v G' H' R.post
end

/-! ### scalars handed back -/
section
variable {K : PySem.W.Frag} {fa : Nat → Addr} {C0 : Addr → Prop} {G0 H0 G H : Hp} {σ : L2.St} {ρ : REnv}
theorem At.int (A : At K fa C0 G0 H0 G H σ ρ) (i : Int) : Ops1 K fa C0 G0 H0 G H σ ρ (.int i) (.t (.int i)) := ⟨A, Rep.int i, trivial⟩
theorem At.bl (A : At K fa C0 G0 H0 G H σ ρ) (i : Bool) : Ops1 K fa C0 G0 H0 G H σ ρ (.bl i) (.t (.bl i)) := ⟨A, Rep.bl i, trivial⟩
theorem At.str (A : At K fa C0 G0 H0 G H σ ρ) (i : Str) : Ops1 K fa C0 G0 H0 G H σ ρ (.str i) (.t (.str i)) := ⟨A, Rep.str i, trivial⟩
theorem At.non (A : At K fa C0 G0 H0 G H σ ρ) : Ops1 K fa C0 G0 H0 G H σ ρ .non (.t .non) := ⟨A, Rep.non, trivial⟩
theorem At.tr (A : At K fa C0 G0 H0 G H σ ρ) {v : V} {x : T} (r : Rep K fa G v x) : Ops1 K fa C0 G0 H0 G H σ ρ v (.t x) := ⟨A, r, trivial⟩
theorem At.lstR (A : At K fa C0 G0 H0 G H σ ρ) {p : Addr} {vs : List V} {ts : List T} (h : H p = none) (r : RepAll K fa G vs ts) : Ops1 K fa C0 G0 H0 G (upd H p (.lst vs)) σ ρ (.ref p) (.own (.lst ts)) :=
  let ⟨a, b, c⟩ := A.newLst h r; ⟨a, b, c⟩
theorem At.tupR (A : At K fa C0 G0 H0 G H σ ρ) {p : Addr} {vs : List V} {ts : List T} (h : H p = none) (r : RepAll K fa G vs ts) : Ops1 K fa C0 G0 H0 (upd G p (.tup vs)) (upd H p (.tup vs)) σ ρ (.ref p) (.t (.tup ts)) :=
  let ⟨a, b⟩ := A.newTup h r; ⟨a, b, trivial⟩
end
theorem Rep.int_inv {K : PySem.W.Frag} {fa : Nat → Addr} {G : Hp} {v : V} {i : Int} (h : Rep K fa G v (.int i)) : v = .int i := by cases h; rfl
theorem Rep.bl_inv {K : PySem.W.Frag} {fa : Nat → Addr} {G : Hp} {v : V} {i : Bool} (h : Rep K fa G v (.bl i)) : v = .bl i := by cases h; rfl
theorem Rep.str_inv {K : PySem.W.Frag} {fa : Nat → Addr} {G : Hp} {v : V} {i : Str} (h : Rep K fa G v (.str i)) : v = .str i := by cases h; rfl
theorem Rep.non_inv {K : PySem.W.Frag} {fa : Nat → Addr} {G : Hp} {v : V} (h : Rep K fa G v .non) : v = .non := by cases h; rfl

/-! ### + -/
def line : Nat := 16777216
theorem line_eq : line = sizeLine := sizeLine_eq.symm
def gCat (ρ : REnv) (l1 l2 : L) : Option L :=
  match l1.lview ρ, l2.lview ρ with
  | some xs, some ys => if xs.length + ys.length ≤ line then some (.own (.lst (xs ++ ys))) else none
  | _, _ => none
def gAdd (ρ : REnv) (l1 l2 : L) : Option L :=
  match l1, l2 with
  | .t (.int i), .t (.int j) => some (.t (.int (i + j)))
  | .t (.str i), .t (.str j) => if i.length + j.length ≤ line then some (.t (.str (i ++ j))) else none
  | .t (.tup xs), .t (.tup ys) => if xs.length + ys.length ≤ line then some (.t (.tup (xs ++ ys))) else none
  | _, _ => gCat ρ l1 l2
def rAddT (K : PySem.W.Frag) : R2 := fun x y H Q => (rI0 (fun i j => .int (i + j)) x y H Q ∨ (∃ i j, x = .str i ∧ y = .str j ∧ i.length + j.length ≤ sizeLine ∧ Q (.str (i ++ j)) H)) ∨ (rCat x y H Q ∨ rCatA K x y H Q)
theorem op_addT {X : Cx} : OpR X (binaryOp .Add) (rAddT X.K) := (op_add.or op_add_str).or (op_cat.or op_catA)
section
variable {K : PySem.W.Frag} {fa : Nat → Addr}
theorem gCat_ok {C0 : Addr → Prop} {G0 H0 G H : Hp} {σ : L2.St} {ρ : REnv} {v1 v2 : V} {l1 l2 l : L} {Q : VK} (O : Ops2 K fa C0 G0 H0 G H σ ρ v1 l1 v2 l2) (e : gCat ρ l1 l2 = some l)
    (k : ∀ v G' H', Ops1 K fa C0 G0 H0 G' H' σ ρ v l → Q v H') : rCat v1 v2 H Q := by
  unfold gCat at e
  split at e
  · rename_i xs ys e1 e2
    split at e
    · rename_i hz
      cases e
      obtain ⟨p, vs, rfl, hp, rp⟩ := lview_ok O.env O.r1 e1
      obtain ⟨q, ws, rfl, hq, rq⟩ := lview_ok O.env O.r2 e2
      refine ⟨p, q, vs, ws, rfl, rfl, hp, hq, by rw [rp.length, rq.length, ← line_eq]; exact hz, fun a na => ?_⟩
      exact k _ _ _ (O.toAt.lstR na (rp.append rq))
    · cases e
  · cases e
theorem opt_add : OpT K fa (rAddT K) gAdd := by
  intro C0 G0 H0 G H σ ρ v1 v2 l1 l2 l Q O e k
  unfold gAdd at e
  split at e
  · cases e
    have e1 := Rep.int_inv O.r1
    have e2 := Rep.int_inv O.r2
    exact .inl (.inl ⟨_, _, e1, e2, k _ _ _ (O.toAt.int _)⟩)
  · split at e
    · rename_i hz
      cases e
      have e1 := Rep.str_inv O.r1
      have e2 := Rep.str_inv O.r2
      exact .inl (.inr ⟨_, _, e1, e2, by rw [← line_eq]; exact hz, k _ _ _ (O.toAt.str _)⟩)
    · cases e
  · split at e
    · rename_i xs ys hz
      cases e
      refine .inr (.inr ?_)
      have h1 := O.r1
      have h2 := O.r2
      cases (show Rep K fa G v1 _ from h1) with
      | tup s1 a1 =>
        cases (show Rep K fa G v2 _ from h2) with
        | tup s2 a2 =>
          rename_i a vs b ws
          refine ⟨a, b, vs, ws, rfl, rfl, same_sqT O.env.same (.of s1), same_sqT O.env.same (.of s2), by rw [a1.length, a2.length, ← line_eq]; exact hz, fun hx => ?_, fun _ hy => ?_, fun _ _ p hp => ?_⟩
          · have : xs = [] := by
              have := a1.length
              rw [hx] at this
              exact List.length_eq_zero_iff.mp this.symm
            subst this
            exact k _ _ _ (O.toAt.tr (.tup s2 a2))
          · have : ys = [] := by
              have := a2.length
              rw [hy] at this
              exact List.length_eq_zero_iff.mp this.symm
            subst this
            rw [List.append_nil] at k
            exact k _ _ _ (O.toAt.tr (.tup s1 a1))
          · exact k _ _ _ (O.toAt.tupR hp (a1.append a2))
    · cases e
  · exact .inr (.inl (gCat_ok O e k))
end
theorem SE.add {X : Cx} {fa : Nat → Addr} {a b : Expr} {d1 d2 : Den} {pos : Pos} (h1 : SE X fa a d1) (h2 : SE X fa b d2) : SE X fa (.BinOp a .Add b pos) (den2 gAdd d1 d2) :=
  h1.two h2 (fun _ _ pa pb => pe_op op_addT pa pb) opt_add

/-! ### -, *, //, %, ** -/
def gSub (_ : REnv) (l1 l2 : L) : Option L :=
  match l1, l2 with
  | .t (.int i), .t (.int j) => some (.t (.int (i - j)))
  | _, _ => none
theorem opt_sub {K : PySem.W.Frag} {fa : Nat → Addr} : OpT K fa (rI0 fun i j => .int (i - j)) gSub := by
  intro C0 G0 H0 G H σ ρ v1 v2 l1 l2 l Q O e k
  unfold gSub at e
  split at e
  · cases e
    exact ⟨_, _, Rep.int_inv O.r1, Rep.int_inv O.r2, k _ _ _ (O.toAt.int _)⟩
  · cases e
theorem SE.sub {X : Cx} {fa : Nat → Addr} {a b : Expr} {d1 d2 : Den} {pos : Pos} (h1 : SE X fa a d1) (h2 : SE X fa b d2) : SE X fa (.BinOp a .Sub b pos) (den2 gSub d1 d2) :=
  h1.two h2 (fun _ _ pa pb => pe_op op_sub pa pb) opt_sub

def mulOk (i j : Int) : Bool := (decide (-(18446744073709551616) < i) && decide (i < 18446744073709551616)) || (decide (-(18446744073709551616) < j) && decide (j < 18446744073709551616)) || decide (i.natAbs.log2 + j.natAbs.log2 < 1000000)
theorem mulOk_spec {i j : Int} (h : mulOk i j = true) : CMul i j ∨ CMulW i j := by
  simp only [mulOk, Bool.or_eq_true, Bool.and_eq_true, decide_eq_true_eq] at h
  rcases h with (h | h) | h
  · exact .inl (.inl ⟨by omega, by omega⟩)
  · exact .inl (.inr ⟨by omega, by omega⟩)
  · exact .inr h
def gMul (ρ : REnv) (l1 l2 : L) : Option L :=
  match l1, l2 with
  | .t (.int i), .t (.int j) => if mulOk i j then some (.t (.int (i * j))) else none
  | _, .t (.int k) => match l1.lview ρ with
    | some xs => if decide (-(9223372036854775808) ≤ k) && decide (k < 9223372036854775808) && decide (xs.length * k.toNat ≤ line) then some (.own (.lst (List.replicate k.toNat xs).flatten)) else none
    | none => none
  | _, _ => none
def rMulT : R2 := fun x y H Q => (rI CMul (fun i j => .int (i * j)) x y H Q ∨ rI CMulW (fun i j => .int (i * j)) x y H Q) ∨ rRep x y H Q
theorem op_mulT {X : Cx} : OpR X (binaryOp .Mult) rMulT := (op_mul.or op_mulW).or op_rep
theorem opt_mul {K : PySem.W.Frag} {fa : Nat → Addr} : OpT K fa rMulT gMul := by
  intro C0 G0 H0 G H σ ρ v1 v2 l1 l2 l Q O e k
  unfold gMul at e
  split at e
  · split at e
    · rename_i hm
      cases e
      refine .inl ?_
      rcases mulOk_spec hm with hm | hm
      · exact .inl ⟨_, _, Rep.int_inv O.r1, Rep.int_inv O.r2, hm, k _ _ _ (O.toAt.int _)⟩
      · exact .inr ⟨_, _, Rep.int_inv O.r1, Rep.int_inv O.r2, hm, k _ _ _ (O.toAt.int _)⟩
    · cases e
  · split at e
    · rename_i xs e1
      split at e
      · rename_i hz
        cases e
        simp only [Bool.and_eq_true, decide_eq_true_eq] at hz
        obtain ⟨p, vs, rfl, hp, rp⟩ := lview_ok O.env O.r1 e1
        refine .inr ⟨p, _, vs, rfl, Rep.int_inv O.r2, hp, by omega, by omega, by rw [rp.length, ← line_eq]; exact hz.2, fun a na => ?_⟩
        exact k _ _ _ (O.toAt.lstR na (rp.flatten_rep _))
      · cases e
    · cases e
  · cases e
theorem SE.mul {X : Cx} {fa : Nat → Addr} {a b : Expr} {d1 d2 : Den} {pos : Pos} (h1 : SE X fa a d1) (h2 : SE X fa b d2) : SE X fa (.BinOp a .Mult b pos) (den2 gMul d1 d2) :=
  h1.two h2 (fun _ _ pa pb => pe_op op_mulT pa pb) opt_mul

def gMod (_ : REnv) (l1 l2 : L) : Option L :=
  match l1, l2 with
  | .t (.int i), .t (.int j) => if 0 < j then some (.t (.int (i % j))) else none
  | _, _ => none
theorem opt_mod {K : PySem.W.Frag} {fa : Nat → Addr} : OpT K fa (rI (fun _ j => 0 < j) fun i j => .int (i % j)) gMod := by
  intro C0 G0 H0 G H σ ρ v1 v2 l1 l2 l Q O e k
  unfold gMod at e
  split at e
  · split at e
    · rename_i h
      cases e
      exact ⟨_, _, Rep.int_inv O.r1, Rep.int_inv O.r2, h, k _ _ _ (O.toAt.int _)⟩
    · cases e
  · cases e
theorem SE.mod {X : Cx} {fa : Nat → Addr} {a b : Expr} {d1 d2 : Den} {pos : Pos} (h1 : SE X fa a d1) (h2 : SE X fa b d2) : SE X fa (.BinOp a .Mod b pos) (den2 gMod d1 d2) :=
  h1.two h2 (fun _ _ pa pb => pe_op op_mod pa pb) opt_mod

def gDiv (_ : REnv) (l1 l2 : L) : Option L :=
  match l1, l2 with
  | .t (.int i), .t (.int j) => if decide (0 < j) && decide (j < 1073741824) then some (.t (.int (i / j))) else none
  | _, _ => none
theorem opt_div {K : PySem.W.Frag} {fa : Nat → Addr} : OpT K fa (rI CDiv fun i j => .int (i / j)) gDiv := by
  intro C0 G0 H0 G H σ ρ v1 v2 l1 l2 l Q O e k
  unfold gDiv at e
  split at e
  · split at e
    · rename_i h
      cases e
      simp only [Bool.and_eq_true, decide_eq_true_eq] at h
      exact ⟨_, _, Rep.int_inv O.r1, Rep.int_inv O.r2, h, k _ _ _ (O.toAt.int _)⟩
    · cases e
  · cases e
theorem SE.div {X : Cx} {fa : Nat → Addr} {a b : Expr} {d1 d2 : Den} {pos : Pos} (h1 : SE X fa a d1) (h2 : SE X fa b d2) : SE X fa (.BinOp a .FloorDiv b pos) (den2 gDiv d1 d2) :=
  h1.two h2 (fun _ _ pa pb => pe_op op_fdiv pa pb) opt_div

def gPow (_ : REnv) (l1 l2 : L) : Option L :=
  match l1, l2 with
  | .t (.int i), .t (.int j) => if decide (0 ≤ j) && decide (j ≤ 1000000) && decide (i.natAbs < 18446744073709551616) then some (.t (.int (i ^ j.toNat))) else none
  | _, _ => none
theorem opt_pow {K : PySem.W.Frag} {fa : Nat → Addr} : OpT K fa (rI CPow fun i j => .int (i ^ j.toNat)) gPow := by
  intro C0 G0 H0 G H σ ρ v1 v2 l1 l2 l Q O e k
  unfold gPow at e
  split at e
  · split at e
    · rename_i h
      cases e
      simp only [Bool.and_eq_true, decide_eq_true_eq] at h
      exact ⟨_, _, Rep.int_inv O.r1, Rep.int_inv O.r2, ⟨h.1.1, h.1.2, by have := h.2; omega⟩, k _ _ _ (O.toAt.int _)⟩
    · cases e
  · cases e
theorem SE.pow {X : Cx} {fa : Nat → Addr} {a b : Expr} {d1 d2 : Den} {pos : Pos} (h1 : SE X fa a d1) (h2 : SE X fa b d2) : SE X fa (.BinOp a .Pow b pos) (den2 gPow d1 d2) :=
  h1.two h2 (fun _ _ pa pb => pe_op op_pow pa pb) opt_pow

def gNeg (_ : REnv) (l1 : L) : Option L :=
  match l1 with
  | .t (.int i) => some (.t (.int (-i)))
  | _ => none
theorem unt_neg {K : PySem.W.Frag} {fa : Nat → Addr} : UnT K fa (rU fun i => .int (-i)) gNeg := by
  intro C0 G0 H0 G H σ ρ v1 l1 l Q O e k
  unfold gNeg at e
  split at e
  · cases e
    exact ⟨_, Rep.int_inv O.r1, k _ _ _ (O.toAt.int _)⟩
  · cases e
theorem SE.neg {X : Cx} {fa : Nat → Addr} {a : Expr} {d1 : Den} {pos : Pos} (h1 : SE X fa a d1) : SE X fa (.UnaryOp .USub a pos) (den1 gNeg d1) :=
  h1.un (fun _ pa => pe_un un_neg pa) unt_neg
end LW
namespace LW
open PySem PySem.Spec PyProof.Rows L2

section
variable {X : Cx} {fa : Nat → Addr} {e a b c : Expr} {es : List Expr} {d d1 d2 d3 : Den} {pos : Pos}

/-! ### names, constants -/
/-- the value of a slot: a tree, or a slot's own object by its place -/
def gVar (i : Nat) : Den := fun ρ => match ρ[i]? with
  | some (.t x) => some (.t x, ρ)
  | some (.own _) => some (.ref i, ρ)
  | _ => none
theorem SE.var {i : Nat} {x : Str} (hN : X.N[i]? = some x) (hv : Vis X.env.scope x) (hd : (x == ("__debug__" : Str)) = false) (hcd : (x == ("__classdict__" : Str)) = false) : SE X fa (.Name x pos) (gVar i) := by
  refine ⟨_, pe_var hN hv hd hcd, fun σ G H ρ l ρ' Q E hd k => ?_⟩
  unfold gVar at hd
  split at hd
  · rename_i y q
    cases hd
    obtain ⟨v, e1, e2⟩ := E.t i y q
    exact ⟨v, e1, k v G H ⟨Aft.refl, E, e2, trivial⟩⟩
  · rename_i c q
    cases hd
    obtain ⟨a, o, e1, e2⟩ := E.own i c q
    exact ⟨_, e1, k _ G H ⟨Aft.refl, E, e1, trivial⟩⟩
  · cases hd
def gC (x : T) : Den := fun ρ => some (.t x, ρ)
theorem SE.const {v : V} {x : T} (hp : PE X e (tC v)) (hr : ∀ G, Rep X.K fa G v x) : SE X fa e (gC x) :=
  ⟨_, hp, fun σ G H ρ l ρ' Q E hd k => by cases hd; exact k v G H ⟨Aft.refl, E, hr G, trivial⟩⟩
theorem SE.int {i : Int} {j : Nat} : SE X fa (.Constant (.int i) j pos) (gC (.int i)) := .const pe_int fun _ => .int i
theorem SE.bl {i : Bool} {j : Nat} : SE X fa (.Constant (.bool i) j pos) (gC (.bl i)) := .const pe_bl fun _ => .bl i
theorem SE.non {j : Nat} : SE X fa (.Constant .none j pos) (gC .non) := .const pe_non fun _ => .non
theorem SE.str {x : Str} {j : Nat} : SE X fa (.Constant (.str x) j pos) (gC (.str x)) := .const pe_str fun _ => .str x
/-- a module's name -/
theorem SE.glob {x : Str} {v : V} {u : Value} {y : T} (hg : Gl X x) (hm : X.mg x = some u) (r : RelV v u) (hd : (x == ("__debug__" : Str)) = false) (hr : ∀ G, Rep X.K fa G v y) : SE X fa (.Name x pos) (gC y) := .const (pe_glob hg hm r hd) hr

/-! ### a or b by cases: if -/
def ST (X : Cx) (fa : Nat → Addr) (e : Expr) (d : REnv → Option (Bool × REnv)) : Prop :=
  ∃ t : TT, PT X e t ∧ ∀ (σ : L2.St) (G H : Hp) (ρ : REnv) (b : Bool) (ρ' : REnv) (Q : Bool → Hp → Prop), EnvOk X.K fa G H σ ρ → d ρ = some (b, ρ') →
    (∀ G' H', At X.K fa (Cl σ ρ) G H G' H' σ ρ' → Q b H') → t σ H Q
abbrev DenT := REnv → Option (Bool × REnv)
def L.asBl : L → Option Bool
  | .t (.bl b) => some b
  | _ => none
/-- a value's truth -/
def L.truth (ρ : REnv) (l : L) : Option Bool :=
  match l with
  | .t .non => some false
  | .t (.bl b) => some b
  | .t (.int i) => some (i != 0)
  | .t (.str y) => if y.length ≤ line then some ((y.length : Int) != 0) else none
  | .t (.tup xs) => some (!xs.isEmpty)
  | l => (l.lview ρ).map fun xs => !xs.isEmpty
theorem isEmpty_rep {K : PySem.W.Frag} {G : Hp} {vs : List V} {ts : List T} (h : RepAll K fa G vs ts) : vs.isEmpty = ts.isEmpty := by
  cases h <;> rfl
theorem truth_ok {K : PySem.W.Frag} {G H : Hp} {C : Addr → Prop} {σ : L2.St} {ρ : REnv} {v : V} {l : L} {b : Bool} (E : EnvOk K fa G H σ ρ) (r : LRep K fa G H C σ v l) (h : l.truth ρ = some b) : TruV K v H b := by
  unfold L.truth at h
  split at h
  · cases h; rw [Rep.non_inv r]; rfl
  · cases h; rw [Rep.bl_inv r]; rfl
  · cases h; rw [Rep.int_inv r]; rfl
  · split at h
    · rename_i y hz
      cases h; rw [Rep.str_inv r]; exact ⟨by rw [← line_eq]; exact hz, rfl⟩
    · cases h
  · cases h
    cases (show Rep K fa G v _ from r) with
    | tup s a => exact .inr (.inl ⟨_, same_sqT E.same (.of s), by rw [isEmpty_rep a]⟩)
  · cases q : l.lview ρ with
    | none => simp [q] at h
    | some xs =>
      simp [q] at h
      obtain ⟨p, vs, rfl, hp, rp⟩ := lview_ok E r q
      exact .inl ⟨vs, .of hp, by rw [isEmpty_rep rp, h, Bool.not_not]⟩
def dTru (d : Den) : DenT := fun ρ => (d ρ).bind fun p => (p.1.truth p.2).map fun b => (b, p.2)
theorem SE.truth (h : SE X fa a d) (he : ∀ whole, isTrue a X.env whole = (do let v ← whole; standAt a.pos; holding [v] (truthy v))) : ST X fa a (dTru d) := by
  obtain ⟨t, p, r⟩ := h
  refine ⟨_, pt_truth p he, fun σ G H ρ b ρ' Q E hd k => ?_⟩
  cases q : d ρ with
  | none => simp [dTru, q] at hd
  | some z =>
    cases q2 : z.1.truth z.2 with
    | none => simp [dTru, q, q2] at hd
    | some b' =>
      simp [dTru, q, q2] at hd
      obtain ⟨rfl, rfl⟩ := hd
      exact r σ G H ρ z.1 z.2 _ E q fun v G' H' P => ⟨_, truth_ok P.env P.rep q2, k G' H' ⟨P.env, P.aft⟩⟩
/-- an expression whose value is a bool, as a test by tTest -/
def dBl (d : Den) : DenT := fun ρ => (d ρ).bind fun p => p.1.asBl.map fun b => (b, p.2)
theorem asBl_inv {l : L} {b : Bool} (h : l.asBl = some b) : l = .t (.bl b) := by
  unfold L.asBl at h
  split at h
  · cases h; rfl
  · cases h
/-! ### comparisons -/
/-- two operands and a rule for a comparison: as a value and as a test; nothing changes -/
def CmT (K : PySem.W.Frag) (fa : Nat → Addr) (r : R2) (g : REnv → L → L → Option Bool) : Prop :=
  ∀ (C0 : Addr → Prop) (G0 H0 G H : Hp) (σ : L2.St) (ρ : REnv) (v1 v2 : V) (l1 l2 : L) (b : Bool) (Q : VK), Ops2 K fa C0 G0 H0 G H σ ρ v1 l1 v2 l2 → g ρ l1 l2 = some b → Q (.bl b) H → r v1 v2 H Q
structure CmpR (X : Cx) (fa : Nat → Addr) (op : CmpOp) (g : REnv → L → L → Option Bool) : Prop where
  ex : ∃ r : R2, OpR X (compareOp op) r ∧ CmT X.K fa r g
def gB (g : REnv → L → L → Option Bool) : REnv → L → L → Option L := fun ρ l1 l2 => (g ρ l1 l2).map fun b => .t (.bl b)
theorem CmT.opt {K : PySem.W.Frag} {r : R2} {g : REnv → L → L → Option Bool} (h : CmT K fa r g) : OpT K fa r (gB g) := by
  intro C0 G0 H0 G H σ ρ v1 v2 l1 l2 l Q O e k
  cases q : g ρ l1 l2 with
  | none => simp [gB, q] at e
  | some b =>
    simp [gB, q] at e
    subst e
    exact h _ _ _ _ _ _ _ _ _ _ _ _ _ O q (k _ _ _ (O.toAt.bl b))
theorem SE.cmp {op : CmpOp} {g : REnv → L → L → Option Bool} (h1 : SE X fa a d1) (h2 : SE X fa b d2) (hc : CmpR X fa op g) (hm : behindInMarks op b = false) : SE X fa (.Compare a [op] [b] pos) (den2 (gB g) d1 d2) := by
  obtain ⟨r, p, q⟩ := hc.ex
  exact h1.two h2 (fun _ _ pa pb => pe_cmpR p pa pb hm) q.opt
abbrev Rd1 (X : Cx) (fa : Nat → Addr) (t : TE) (d : Den) : Prop := ∀ (σ : L2.St) (G H : Hp) (ρ : REnv) (l : L) (ρ' : REnv) (Q : VK), EnvOk X.K fa G H σ ρ → d ρ = some (l, ρ') → (∀ v G' H', Post X.K fa G H σ ρ l ρ' v G' H' → Q v H') → t σ H Q
theorem two_read {t1 t2 : TE} {r : R2} {g : REnv → L → L → Option L} (ra : Rd1 X fa t1 d1) (rb : Rd1 X fa t2 d2) (ho : OpT X.K fa r g) : Rd1 X fa (tOp r t1 t2) (den2 g d1 d2) := by
  intro σ G H ρ l ρ' Q E hd k
  cases q : d1 ρ with
  | none => simp [den2, q] at hd
  | some p =>
    cases q1 : d2 p.2 with
    | none => simp [den2, q, q1] at hd
    | some p' =>
      cases q2 : g p'.2 p.1 p'.1 with
      | none => simp [den2, q, q1, q2] at hd
      | some l' =>
        simp [den2, q, q1, q2] at hd
        obtain ⟨rfl, rfl⟩ := hd
        refine ra σ G H ρ p.1 p.2 _ E q fun v1 G1 H1 P1 => ?_
        refine rb σ G1 H1 p.2 p'.1 p'.2 _ P1.env q1 fun v2 G2 H2 P2 => ?_
        exact ho _ _ _ _ _ _ _ _ _ _ _ _ _ (P1.then2 P2) q2 fun v G' H' R => k v G' H' R.post
theorem test_read {t : TE} (r : Rd1 X fa t d) : ∀ (σ : L2.St) (G H : Hp) (ρ : REnv) (b : Bool) (ρ' : REnv) (Q : Bool → Hp → Prop), EnvOk X.K fa G H σ ρ → dBl d ρ = some (b, ρ') →
    (∀ G' H', At X.K fa (Cl σ ρ) G H G' H' σ ρ' → Q b H') → tTest t σ H Q := by
  intro σ G H ρ b ρ' Q E hd k
  cases q : d ρ with
  | none => simp [dBl, q] at hd
  | some z =>
    cases q2 : z.1.asBl with
    | none => simp [dBl, q, q2] at hd
    | some b' =>
      simp [dBl, q, q2] at hd
      obtain ⟨rfl, rfl⟩ := hd
      refine r σ G H ρ z.1 z.2 _ E q fun v G' H' P => ?_
      have rp := P.rep
      rw [asBl_inv q2] at rp
      exact ⟨_, Rep.bl_inv rp, k G' H' ⟨P.env, P.aft⟩⟩
theorem ST.cmp {op : CmpOp} {g : REnv → L → L → Option Bool} (h1 : SE X fa a d1) (h2 : SE X fa b d2) (hc : CmpR X fa op g) (hm : behindInMarks op b = false) : ST X fa (.Compare a [op] [b] pos) (dBl (den2 (gB g) d1 d2)) := by
  obtain ⟨r, p, q⟩ := hc.ex
  obtain ⟨t1, p1, r1⟩ := id h1
  obtain ⟨t2, p2, r2⟩ := id h2
  exact ⟨_, pt_cmpR p p1 p2 hm, test_read (two_read r1 r2 q.opt)⟩
/-- a op1 b op2 c -/
def denC (g g' : REnv → L → L → Option Bool) (d1 d2 d3 : Den) : Den := fun ρ => (d1 ρ).bind fun p => (d2 p.2).bind fun q => (g q.2 p.1 q.1).bind fun k =>
  if k then (d3 q.2).bind fun z => (g' z.2 q.1 z.1).map fun l' => (.t (.bl l'), z.2) else some (.t (.bl false), q.2)
theorem chain_read {t1 t2 t3 : TE} {r r' : R2} {g g' : REnv → L → L → Option Bool} (ra : Rd1 X fa t1 d1) (rb : Rd1 X fa t2 d2) (rc : Rd1 X fa t3 d3) (ho : CmT X.K fa r g) (ho' : CmT X.K fa r' g') :
    Rd1 X fa (tChain r r' t1 t2 t3) (denC g g' d1 d2 d3) := by
  intro σ G H ρ l ρ' Q E hd k
  cases q : d1 ρ with
  | none => simp [denC, q] at hd
  | some p =>
    cases q1 : d2 p.2 with
    | none => simp [denC, q, q1] at hd
    | some p' =>
      cases q2 : g p'.2 p.1 p'.1 with
      | none => simp [denC, q, q1, q2] at hd
      | some b' =>
        refine ra σ G H ρ p.1 p.2 _ E q fun v1 G1 H1 P1 => ?_
        refine rb σ G1 H1 p.2 p'.1 p'.2 _ P1.env q1 fun v2 G2 H2 P2 => ?_
        have O := P1.then2 P2
        refine ho _ _ _ _ _ _ _ _ _ _ _ _ _ O q2 ⟨b', rfl, ?_⟩
        cases b' with
        | false =>
          simp [denC, q, q1, q2] at hd
          obtain ⟨rfl, rfl⟩ := hd
          exact iteF (k _ _ _ (O.toAt.bl false).post)
        | true =>
          simp [denC, q, q1, q2] at hd
          refine iteT ?_
          cases q4 : d3 p'.2 with
          | none => simp [q4] at hd
          | some z =>
            cases q5 : g' z.2 p'.1 z.1 with
            | none => simp [q4, q5] at hd
            | some lz =>
              simp [q4, q5] at hd
              obtain ⟨rfl, rfl⟩ := hd
              refine rc σ G2 H2 p'.2 z.1 z.2 _ O.env q4 fun v3 G3 H3 P3 => ?_
              have O3 : Ops2 X.K fa (Cl σ ρ) G H G3 H3 σ z.2 v2 p'.1 v3 z.1 := ⟨⟨P3.env, O.aft.trans P3.aft⟩, O.r2.aft P3.aft, O.n2, P3.rep, P3.new.aft O.aft⟩
              exact ho' _ _ _ _ _ _ _ _ _ _ _ _ _ O3 q5 (k _ _ _ (O3.toAt.bl lz).post)
theorem SE.chain {op op' : CmpOp} {g g' : REnv → L → L → Option Bool} (h1 : SE X fa a d1) (h2 : SE X fa b d2) (h3 : SE X fa c d3) (hc : CmpR X fa op g) (hc' : CmpR X fa op' g') (hm : lastMarks [op, op'] [b, c] = false) :
    SE X fa (.Compare a [op, op'] [b, c] pos) (denC g g' d1 d2 d3) := by
  obtain ⟨r, p, q⟩ := hc.ex
  obtain ⟨r', p', q'⟩ := hc'.ex
  obtain ⟨t1, p1, r1⟩ := h1
  obtain ⟨t2, p2, r2⟩ := h2
  obtain ⟨t3, p3, r3⟩ := h3
  exact ⟨_, pe_chain p p' p1 p2 p3 hm, chain_read r1 r2 r3 q q'⟩
theorem ST.chain {op op' : CmpOp} {g g' : REnv → L → L → Option Bool} (h1 : SE X fa a d1) (h2 : SE X fa b d2) (h3 : SE X fa c d3) (hc : CmpR X fa op g) (hc' : CmpR X fa op' g') (hm : lastMarks [op, op'] [b, c] = false) :
    ST X fa (.Compare a [op, op'] [b, c] pos) (dBl (denC g g' d1 d2 d3)) := by
  obtain ⟨r, p, q⟩ := hc.ex
  obtain ⟨r', p', q'⟩ := hc'.ex
  obtain ⟨t1, p1, r1⟩ := h1
  obtain ⟨t2, p2, r2⟩ := h2
  obtain ⟨t3, p3, r3⟩ := h3
  exact ⟨_, pt_chain p p' p1 p2 p3 hm, test_read (chain_read r1 r2 r3 q q')⟩
/-- not, and, or of tests -/
def dNot (d : DenT) : DenT := fun ρ => (d ρ).map fun p => (!p.1, p.2)
def dAnd (d d' : DenT) : DenT := fun ρ => (d ρ).bind fun p => if p.1 then d' p.2 else some (false, p.2)
def dOr (d d' : DenT) : DenT := fun ρ => (d ρ).bind fun p => if p.1 then some (true, p.2) else d' p.2
theorem ST.not {d : DenT} (h : ST X fa a d) : ST X fa (.UnaryOp .Not a pos) (dNot d) := by
  obtain ⟨t, p, r⟩ := h
  refine ⟨_, pt_not p, fun σ G H ρ b ρ' Q E hd k => ?_⟩
  cases q : d ρ with
  | none => simp [dNot, q] at hd
  | some z =>
    have hd : some (!z.1, z.2) = some (b, ρ') := by rw [← hd]; simp [dNot, q]
    cases hd
    exact r σ G H ρ z.1 z.2 _ E q fun G' H' A => k G' H' A
/-- a chain of and, of or: by its first part and the rest -/
def SW (X : Cx) (fa : Nat → Addr) (e : Expr) (d : DenT) : Prop :=
  ∃ t : TT, PW X e t ∧ ∀ (σ : L2.St) (G H : Hp) (ρ : REnv) (b : Bool) (ρ' : REnv) (Q : Bool → Hp → Prop), EnvOk X.K fa G H σ ρ → d ρ = some (b, ρ') →
    (∀ G' H', At X.K fa (Cl σ ρ) G H G' H' σ ρ' → Q b H') → t σ H Q
theorem SW.test {d : DenT} (h : SW X fa a d) : ST X fa a d := by
  obtain ⟨t, p, r⟩ := h
  exact ⟨t, p.pt, r⟩
theorem SW.and1 {d : DenT} (h : ST X fa a d) : SW X fa (.BoolOp .And [a] pos) d := by
  obtain ⟨t, p, r⟩ := h
  exact ⟨_, pw_and1 p, r⟩
theorem SW.or1 {d : DenT} (h : ST X fa a d) : SW X fa (.BoolOp .Or [a] pos) d := by
  obtain ⟨t, p, r⟩ := h
  exact ⟨_, pw_or1 p, r⟩
theorem SW.and {d d' : DenT} (h : ST X fa a d) (h' : SW X fa (.BoolOp .And (b :: es) pos) d') : SW X fa (.BoolOp .And (a :: b :: es) pos) (dAnd d d') := by
  obtain ⟨t, p, r⟩ := h
  obtain ⟨t', p', r'⟩ := h'
  refine ⟨_, pw_and p p', fun σ G H ρ k ρ' Q E hd kk => ?_⟩
  cases q : d ρ with
  | none => simp [dAnd, q] at hd
  | some z =>
    refine r σ G H ρ z.1 z.2 _ E q fun G1 H1 A1 => ?_
    cases q1 : z.1 with
    | false =>
      simp [dAnd, q, q1] at hd
      obtain ⟨rfl, rfl⟩ := hd
      exact iteF (kk _ _ A1)
    | true =>
      simp [dAnd, q, q1] at hd
      exact iteT (r' σ G1 H1 z.2 k ρ' _ A1.env hd fun G2 H2 A2 => kk _ _ ⟨A2.env, A1.aft.trans A2.aft⟩)
theorem SW.or {d d' : DenT} (h : ST X fa a d) (h' : SW X fa (.BoolOp .Or (b :: es) pos) d') : SW X fa (.BoolOp .Or (a :: b :: es) pos) (dOr d d') := by
  obtain ⟨t, p, r⟩ := h
  obtain ⟨t', p', r'⟩ := h'
  refine ⟨_, pw_or p p', fun σ G H ρ k ρ' Q E hd kk => ?_⟩
  cases q : d ρ with
  | none => simp [dOr, q] at hd
  | some z =>
    refine r σ G H ρ z.1 z.2 _ E q fun G1 H1 A1 => ?_
    cases q1 : z.1 with
    | true =>
      simp [dOr, q, q1] at hd
      obtain ⟨rfl, rfl⟩ := hd
      exact iteT (kk _ _ A1)
    | false =>
      simp [dOr, q, q1] at hd
      exact iteF (r' σ G1 H1 z.2 k ρ' _ A1.env hd fun G2 H2 A2 => kk _ _ ⟨A2.env, A1.aft.trans A2.aft⟩)
/-- .. as values (of bools) -/
def dNotV (d : Den) : Den := fun ρ => (d ρ).bind fun p => p.1.asBl.map fun b => (.t (.bl (!b)), p.2)
def dAndV (d d' : Den) : Den := fun ρ => (d ρ).bind fun p => p.1.asBl.bind fun b => if b then d' p.2 else some (.t (.bl false), p.2)
def dOrV (d d' : Den) : Den := fun ρ => (d ρ).bind fun p => p.1.asBl.bind fun b => if b then some (.t (.bl true), p.2) else d' p.2
theorem SE.one {op : BoolOp} (h : SE X fa a d) : SE X fa (.BoolOp op [a] pos) d := by
  obtain ⟨t, p, r⟩ := h
  exact ⟨t, pe_one p, r⟩
theorem SE.notV (h : SE X fa a d) : SE X fa (.UnaryOp .Not a pos) (dNotV d) := by
  obtain ⟨t, p, r⟩ := h
  refine ⟨_, pe_not p, fun σ G H ρ l ρ' Q E hd k => ?_⟩
  cases q : d ρ with
  | none => simp [dNotV, q] at hd
  | some z =>
    cases q2 : z.1.asBl with
    | none => simp [dNotV, q, q2] at hd
    | some b' =>
      simp [dNotV, q, q2] at hd
      obtain ⟨rfl, rfl⟩ := hd
      refine r σ G H ρ z.1 z.2 _ E q fun v G' H' P => ?_
      have rp := P.rep
      rw [asBl_inv q2] at rp
      exact ⟨_, Rep.bl_inv rp, k _ _ _ ((At.bl ⟨P.env, P.aft⟩ (!b')).post)⟩
theorem SE.andV (h : SE X fa a d) (h' : SE X fa (.BoolOp .And (b :: es) pos) d1) : SE X fa (.BoolOp .And (a :: b :: es) pos) (dAndV d d1) := by
  obtain ⟨t, p, r⟩ := h
  obtain ⟨t', p', r'⟩ := h'
  refine ⟨_, pe_and p p', fun σ G H ρ l ρ' Q E hd k => ?_⟩
  cases q : d ρ with
  | none => simp [dAndV, q] at hd
  | some z =>
    cases q2 : z.1.asBl with
    | none => simp [dAndV, q, q2] at hd
    | some b' =>
      refine r σ G H ρ z.1 z.2 _ E q fun v G1 H1 P => ?_
      have rp := P.rep
      rw [asBl_inv q2] at rp
      refine ⟨_, Rep.bl_inv rp, ?_⟩
      cases b' with
      | false =>
        simp [dAndV, q, q2] at hd
        obtain ⟨rfl, rfl⟩ := hd
        exact iteF (k _ _ _ ((At.bl ⟨P.env, P.aft⟩ false).post))
      | true =>
        simp [dAndV, q, q2] at hd
        exact iteT (r' σ G1 H1 z.2 l ρ' _ P.env hd fun v2 G2 H2 P2 => k _ _ _ ⟨P.aft.trans P2.aft, P2.env, P2.rep, P2.new.aft P.aft⟩)
theorem SE.orV (h : SE X fa a d) (h' : SE X fa (.BoolOp .Or (b :: es) pos) d1) : SE X fa (.BoolOp .Or (a :: b :: es) pos) (dOrV d d1) := by
  obtain ⟨t, p, r⟩ := h
  obtain ⟨t', p', r'⟩ := h'
  refine ⟨_, pe_or p p', fun σ G H ρ l ρ' Q E hd k => ?_⟩
  cases q : d ρ with
  | none => simp [dOrV, q] at hd
  | some z =>
    cases q2 : z.1.asBl with
    | none => simp [dOrV, q, q2] at hd
    | some b' =>
      refine r σ G H ρ z.1 z.2 _ E q fun v G1 H1 P => ?_
      have rp := P.rep
      rw [asBl_inv q2] at rp
      refine ⟨_, Rep.bl_inv rp, ?_⟩
      cases b' with
      | true =>
        simp [dOrV, q, q2] at hd
        obtain ⟨rfl, rfl⟩ := hd
        exact iteT (k _ _ _ ((At.bl ⟨P.env, P.aft⟩ true).post))
      | false =>
        simp [dOrV, q, q2] at hd
        exact iteF (r' σ G1 H1 z.2 l ρ' _ P.env hd fun v2 G2 H2 P2 => k _ _ _ ⟨P.aft.trans P2.aft, P2.env, P2.rep, P2.new.aft P.aft⟩)
def dIf (c : DenT) (d d' : Den) : Den := fun ρ => (c ρ).bind fun p => if p.1 then d p.2 else d' p.2
theorem SE.ite {dc : DenT} (hc : ST X fa c dc) (h : SE X fa a d) (h' : SE X fa b d1) : SE X fa (.IfExp c a b pos) (dIf dc d d1) := by
  obtain ⟨tc, pc, rc⟩ := hc
  obtain ⟨t, p, r⟩ := h
  obtain ⟨t', p', r'⟩ := h'
  refine ⟨_, pe_ifExp pc p p', fun σ G H ρ l ρ' Q E hd k => ?_⟩
  cases q : dc ρ with
  | none => simp [dIf, q] at hd
  | some z =>
    refine rc σ G H ρ z.1 z.2 _ E q fun G1 H1 A1 => ?_
    cases q1 : z.1 with
    | true =>
      simp [dIf, q, q1] at hd
      exact iteT (r σ G1 H1 z.2 l ρ' _ A1.env hd fun v2 G2 H2 P2 => k _ _ _ ⟨A1.aft.trans P2.aft, P2.env, P2.rep, P2.new.aft A1.aft⟩)
    | false =>
      simp [dIf, q, q1] at hd
      exact iteF (r' σ G1 H1 z.2 l ρ' _ A1.env hd fun v2 G2 H2 P2 => k _ _ _ ⟨A1.aft.trans P2.aft, P2.env, P2.rep, P2.new.aft A1.aft⟩)
end
end LW
namespace LW
open PySem PySem.Spec PyProof.Rows L2

/-! ### trees as the library's data -/
mutual
def T.py : T → PyData
  | .non => .none
  | .bl b => .bool b
  | .int i => .int i
  | .str x => .str x
  | .lst xs => .list (T.pys xs)
  | .tup xs => .tuple (T.pys xs)
  | .lkl xs => .list (T.pys xs)
  | .fn _ => .none
  | .dic _ _ _ => .none
  | .ins _ _ => .none
def T.pys : List T → List PyData
  | [] => []
  | x :: xs => T.py x :: T.pys xs
end
mutual
/-- no def among it; every text's signs are signs -/
def T.cln : T → Bool
  | .non => true
  | .bl _ => true
  | .int _ => true
  | .str x => PyData.strOk x
  | .lst xs => T.clns xs
  | .tup xs => T.clns xs
  | .lkl xs => T.clns xs
  | .fn _ => false
  | .dic _ _ _ => false
  | .ins _ _ => false
def T.clns : List T → Bool
  | [] => true
  | x :: xs => T.cln x && T.clns xs
end
mutual
def T.dep : T → Nat
  | .lst xs => T.deps xs + 1
  | .tup xs => T.deps xs + 1
  | .lkl xs => T.deps xs + 1
  | _ => 0
def T.deps : List T → Nat
  | [] => 0
  | x :: xs => max (T.dep x) (T.deps xs)
end
mutual
theorem T.py_dep : ∀ x : T, x.py.depth = x.dep
  | .non => rfl
  | .bl _ => rfl
  | .int _ => rfl
  | .str _ => rfl
  | .lst xs => by simp only [T.py, PyData.depth, T.dep, T.pys_dep xs]
  | .tup xs => by simp only [T.py, PyData.depth, T.dep, T.pys_dep xs]
  | .lkl xs => by simp only [T.py, PyData.depth, T.dep, T.pys_dep xs]
  | .fn _ => rfl
  | .dic _ _ _ => rfl
  | .ins _ _ => rfl
theorem T.pys_dep : ∀ xs : List T, PyData.depthAll (T.pys xs) = T.deps xs
  | [] => rfl
  | x :: xs => by simp only [T.pys, PyData.depthAll, T.deps, T.py_dep x, T.pys_dep xs]
end
mutual
theorem T.py_lay : ∀ x : T, x.cln = true → x.py.canLay0 = true
  | .non, _ => rfl
  | .bl _, _ => rfl
  | .int _, _ => rfl
  | .str x, h => by simpa only [T.py, PyData.canLay0, T.cln] using h
  | .lst xs, h => by
    simp only [T.py, PyData.canLay0]
    exact T.pys_lay xs (by simpa only [T.cln] using h)
  | .tup xs, h => by
    simp only [T.py, PyData.canLay0]
    exact T.pys_lay xs (by simpa only [T.cln] using h)
  | .lkl xs, h => by
    simp only [T.py, PyData.canLay0]
    exact T.pys_lay xs (by simpa only [T.cln] using h)
  | .fn _, _ => rfl
  | .dic _ _ _, _ => rfl
  | .ins _ _, _ => rfl
theorem T.pys_lay : ∀ xs : List T, T.clns xs = true → PyData.canLayAll0 (T.pys xs) = true
  | [], _ => rfl
  | x :: xs, h => by
    simp only [T.clns, Bool.and_eq_true] at h
    simp only [T.pys, PyData.canLayAll0, T.py_lay x h.1, T.pys_lay xs h.2, Bool.and_self]
end
/-- what == takes -/
def T.shp (x : T) : Bool := x.cln && decide (x.dep ≤ 64)
theorem T.shaped {x : T} (h : x.shp = true) : SeqAt.shaped x.py = true := by
  simp only [T.shp, Bool.and_eq_true, decide_eq_true_eq] at h
  simp only [SeqAt.shaped, Bool.and_eq_true, decide_eq_true_eq]
  exact ⟨T.py_lay x h.1, by rw [T.py_dep]; exact h.2⟩
section
variable {K : PySem.W.Frag} {fa : Nat → Addr} {G H : Hp}
mutual
theorem Rep.dp : ∀ {x : T} {v : V}, x.cln = true → Rep K fa G v x → Dp K G v x.py
  | .non, _, _, h => by cases h; exact .non
  | .bl b, _, _, h => by cases h; exact .bl b
  | .int i, _, _, h => by cases h; exact .int i
  | .str y, _, _, h => by cases h; exact .str y
  | .lst xs, _, c, h => by
    cases h with
    | lst e r => exact .lst (.of e) (Rep.dps (by simpa only [T.cln] using c) r)
  | .tup xs, _, c, h => by
    cases h with
    | tup e r => exact .tup (.of e) (Rep.dps (by simpa only [T.cln] using c) r)
  | .lkl xs, _, c, h => by
    cases h with
    | lkl e r => exact .lst e (Rep.dps (by simpa only [T.cln] using c) r)
  | .fn k, _, c, _ => absurd c (by simp [T.cln])
  | .dic _ _ _, _, c, _ => absurd c (by simp [T.cln])
  | .ins _ _, _, c, _ => absurd c (by simp [T.cln])
theorem Rep.dps : ∀ {xs : List T} {vs : List V}, T.clns xs = true → RepAll K fa G vs xs → DpAll K G vs (T.pys xs)
  | [], _, _, h => by cases h; exact .nil
  | x :: xs, _, c, h => by
    simp only [T.clns, Bool.and_eq_true] at c
    cases h with
    | cons a b => exact .cons (Rep.dp c.1 a) (Rep.dps c.2 b)
end
end
/-- Python's == -/
def T.eqv (x y : T) : Bool := PyData.eqv x.py y.py
/-- scalars that == takes apart whatever they are -/
def T.scal : T → T → Bool
  | .non, .non => true | .non, .int _ => true | .int _, .non => true | .non, .bl _ => true | .bl _, .non => true | .non, .str _ => true | .str _, .non => true
  | .int _, .int _ => true | .bl _, .bl _ => true | .str _, .str _ => true
  | .int _, .str _ => true | .str _, .int _ => true | .bl _, .str _ => true | .str _, .bl _ => true
  | _, _ => false
theorem scal_eq {K : PySem.W.Frag} {fa : Nat → Addr} {G : Hp} {v w : V} {x y : T} (h : T.scal x y = true) (r1 : Rep K fa G v x) (r2 : Rep K fa G w y) : L2.scal v w = true ∧ decide (v = w) = T.eqv x y := by
  cases x <;> cases y <;> first
    | (simp [T.scal] at h; done)
    | (cases r1; cases r2; refine ⟨rfl, ?_⟩; simp only [T.eqv, T.py, PyData.eqv]; first | rfl | exact dec_int | exact dec_bl | exact dec_str | (simp; done))
def eqOk (x y : T) : Bool := T.scal x y || (x.shp && y.shp)
def gEq (ρ : REnv) (l1 l2 : L) : Option Bool :=
  match l1.view ρ, l2.view ρ with
  | some x, some y => if eqOk x y then some (T.eqv x y) else none
  | _, _ => none
def gNe (ρ : REnv) (l1 l2 : L) : Option Bool := (gEq ρ l1 l2).map fun b => !b
section
variable {X : Cx} {fa : Nat → Addr}
theorem gEq_inv {K : PySem.W.Frag} {C0 : Addr → Prop} {G0 H0 G H : Hp} {σ : L2.St} {ρ : REnv} {v1 v2 : V} {l1 l2 : L} {b : Bool} (O : Ops2 K fa C0 G0 H0 G H σ ρ v1 l1 v2 l2) (e : gEq ρ l1 l2 = some b) :
    (L2.scal v1 v2 = true ∧ b = decide (v1 = v2)) ∨ ∃ d e, Dp K H v1 d ∧ Dp K H v2 e ∧ SeqAt.shaped d = true ∧ SeqAt.shaped e = true ∧ b = PyData.eqv d e := by
  unfold gEq at e
  split at e
  · rename_i x y e1 e2
    split at e
    · rename_i h
      cases e
      have r1 := view_ok O.env O.r1 e1
      have r2 := view_ok O.env O.r2 e2
      simp only [eqOk, Bool.or_eq_true, Bool.and_eq_true] at h
      rcases h with h | h
      · obtain ⟨h1, h2⟩ := scal_eq h r1 r2
        exact .inl ⟨h1, h2.symm⟩
      · have c1 : x.cln = true := by have := h.1; simp only [T.shp, Bool.and_eq_true] at this; exact this.1
        have c2 : y.cln = true := by have := h.2; simp only [T.shp, Bool.and_eq_true] at this; exact this.1
        exact .inr ⟨_, _, r1.dp c1, r2.dp c2, T.shaped h.1, T.shaped h.2, rfl⟩
    · cases e
  · cases e
theorem cmp_eq (hu : X.A.units + 64 < cLine) : CmpR X fa .Eq gEq := by
  refine ⟨_, op_eq.or (op_eqD hu), fun C0 G0 H0 G H σ ρ v1 v2 l1 l2 b Q O e q => ?_⟩
  rcases gEq_inv O e with ⟨h1, h2⟩ | ⟨d, e', h1, h2, h3, h4, h5⟩
  · subst h2; exact .inl ⟨h1, q⟩
  · subst h5; exact .inr ⟨d, e', h1, h2, h3, h4, q⟩
theorem cmp_ne (hu : X.A.units + 64 < cLine) : CmpR X fa .NotEq gNe := by
  refine ⟨_, op_ne.or (op_neD hu), fun C0 G0 H0 G H σ ρ v1 v2 l1 l2 b Q O e q => ?_⟩
  cases qe : gEq ρ l1 l2 with
  | none => simp [gNe, qe] at e
  | some b' =>
    have e : some (!b') = some b := by rw [← e]; simp [gNe, qe]
    cases e
    rcases gEq_inv O qe with ⟨h1, h2⟩ | ⟨d, e', h1, h2, h3, h4, h5⟩
    · subst h2; exact .inl ⟨h1, q⟩
    · subst h5; exact .inr ⟨d, e', h1, h2, h3, h4, q⟩
def gOrd (p : Int → Int → Bool) (_ : REnv) (l1 l2 : L) : Option Bool :=
  match l1, l2 with
  | .t (.int i), .t (.int j) => some (p i j)
  | _, _ => none
theorem cmp_ord {op : CmpOp} {p : Int → Int → Bool} (h : OpR X (compareOp op) (rI0 fun i j => .bl (p i j))) : CmpR X fa op (gOrd p) := by
  refine ⟨_, h, fun C0 G0 H0 G H σ ρ v1 v2 l1 l2 b Q O e q => ?_⟩
  unfold gOrd at e
  split at e
  · cases e
    exact ⟨_, _, Rep.int_inv O.r1, Rep.int_inv O.r2, q⟩
  · cases e
def gLt := gOrd fun i j => decide (i < j)
def gLe := gOrd fun i j => decide (i ≤ j)
def gGt := gOrd fun i j => decide (j < i)
def gGe := gOrd fun i j => decide (j ≤ i)
theorem cmp_lt : CmpR X fa .Lt gLt := cmp_ord op_lt
theorem cmp_le : CmpR X fa .LtE gLe := cmp_ord op_le
theorem cmp_gt : CmpR X fa .Gt gGt := cmp_ord op_gt
theorem cmp_ge : CmpR X fa .GtE gGe := cmp_ord op_ge
/-- is None, is a bool -/
def T.isNon : T → Bool
  | .non => true
  | _ => false
def gIs (ρ : REnv) (l1 l2 : L) : Option Bool :=
  match l2 with
  | .t .non => (l1.view ρ).map T.isNon
  | .t (.bl b) => l1.asBl.map fun a => a == b
  | _ => none
def gIsNot (ρ : REnv) (l1 l2 : L) : Option Bool := (gIs ρ l1 l2).map fun b => !b
theorem non_iff {K : PySem.W.Frag} {G : Hp} {v : V} {x : T} (r : Rep K fa G v x) : decide (v = .non) = x.isNon := by
  cases x <;> cases r <;> rfl
theorem dec_blv {i j : Bool} : decide (i = j) = (i == j) := by cases i <;> cases j <;> rfl
theorem gIs_inv {K : PySem.W.Frag} {C0 : Addr → Prop} {G0 H0 G H : Hp} {σ : L2.St} {ρ : REnv} {v1 v2 : V} {l1 l2 : L} {b : Bool} (O : Ops2 K fa C0 G0 H0 G H σ ρ v1 l1 v2 l2) (e : gIs ρ l1 l2 = some b) :
    (v2 = .non ∧ b = decide (v1 = .non)) ∨ ∃ a c : Bool, v1 = .bl a ∧ v2 = .bl c ∧ b = decide (a = c) := by
  unfold gIs at e
  split at e
  · cases q : l1.view ρ with
    | none => simp [q] at e
    | some x =>
      simp [q] at e
      exact .inl ⟨Rep.non_inv O.r2, by rw [non_iff (view_ok O.env O.r1 q), e]⟩
  · cases q : l1.asBl with
    | none => simp [q] at e
    | some x =>
      simp [q] at e
      have r1 := O.r1
      rw [asBl_inv q] at r1
      exact .inr ⟨_, _, Rep.bl_inv r1, Rep.bl_inv O.r2, by rw [dec_blv, e]⟩
  · cases e
theorem cmp_is : CmpR X fa .Is gIs := by
  refine ⟨_, op_isN.or op_is_bl, fun C0 G0 H0 G H σ ρ v1 v2 l1 l2 b Q O e q => ?_⟩
  rcases gIs_inv O e with ⟨h1, h2⟩ | ⟨a, c, h1, h2, h3⟩
  · subst h2; exact .inl ⟨h1, q⟩
  · subst h3; exact .inr ⟨a, c, h1, h2, q⟩
theorem cmp_isNot : CmpR X fa .IsNot gIsNot := by
  refine ⟨_, op_notN.or op_isnot_bl, fun C0 G0 H0 G H σ ρ v1 v2 l1 l2 b Q O e q => ?_⟩
  cases qe : gIs ρ l1 l2 with
  | none => simp [gIsNot, qe] at e
  | some b' =>
    have e : some (!b') = some b := by rw [← e]; simp [gIsNot, qe]
    cases e
    rcases gIs_inv O qe with ⟨h1, h2⟩ | ⟨a, c, h1, h2, h3⟩
    · subst h2; exact .inl ⟨h1, q⟩
    · subst h3; exact .inr ⟨a, c, h1, h2, q⟩
/-- x in a list of data, in a tuple of flat ones, in a text -/
def T.flat : T → Bool
  | .non => true
  | .bl _ => true
  | .int _ => true
  | .str _ => true
  | _ => false
def T.inl (x : T) (ys : List T) : Bool := ys.any fun y => T.eqv y x
def gIn (ρ : REnv) (l1 l2 : L) : Option Bool :=
  match l1.view ρ, l2.view ρ with
  | some x, some (.lst ys) => if x.shp && (T.lst ys).shp then some (x.inl ys) else none
  | some x, some (.tup ys) => if x.flat && ys.all T.flat then some (x.inl ys) else none
  | some (.str x), some (.str y) => some (!(Builtin.Str.occurrences y x 0 y.length 1).isEmpty)
  | _, _ => none
def gNotIn (ρ : REnv) (l1 l2 : L) : Option Bool := (gIn ρ l1 l2).map fun b => !b
theorem pys_map : ∀ xs : List T, T.pys xs = xs.map T.py
  | [] => rfl
  | x :: xs => by simp only [T.pys, List.map_cons, pys_map xs]
theorem flat_V {K : PySem.W.Frag} {G : Hp} {v : V} {x : T} (h : x.flat = true) (r : Rep K fa G v x) : flatV v = true := by
  cases x <;> first
    | (simp [T.flat] at h; done)
    | (cases r; rfl)
theorem flat_eqv {K : PySem.W.Frag} {G : Hp} {v w : V} {x y : T} (h : x.flat = true) (h' : y.flat = true) (r : Rep K fa G v x) (r' : Rep K fa G w y) : eqV w v = T.eqv y x := by
  cases x <;> first
    | (simp [T.flat] at h; done)
    | (cases y <;> first
        | (simp [T.flat] at h'; done)
        | (cases r; cases r'; simp only [T.eqv, T.py, PyData.eqv, eqV]))
theorem flat_all {K : PySem.W.Frag} {G : Hp} : ∀ {ys : List T} {vs : List V}, ys.all T.flat = true → RepAll K fa G vs ys → vs.all flatV = true
  | [], _, _, h => by cases h; rfl
  | y :: ys, _, hf, h => by
    cases h with
    | cons a b =>
      simp only [List.all_cons, Bool.and_eq_true] at hf ⊢
      exact ⟨flat_V hf.1 a, flat_all hf.2 b⟩
theorem flat_in {K : PySem.W.Frag} {G : Hp} {v : V} {x : T} (hx : x.flat = true) (r : Rep K fa G v x) : ∀ {ys : List T} {vs : List V}, ys.all T.flat = true → RepAll K fa G vs ys → inV v vs = x.inl ys
  | [], _, _, h => by cases h; rfl
  | y :: ys, _, hf, h => by
    cases h with
    | cons a b =>
      simp only [List.all_cons, Bool.and_eq_true] at hf
      have ih := flat_in hx r hf.2 b
      simp only [inV, T.inl] at ih
      simp only [inV, T.inl, List.any_cons, flat_eqv hx hf.1 r a, ih]
theorem gIn_inv {K : PySem.W.Frag} {C0 : Addr → Prop} {G0 H0 G H : Hp} {σ : L2.St} {ρ : REnv} {v1 v2 : V} {l1 l2 : L} {b : Bool} (O : Ops2 K fa C0 G0 H0 G H σ ρ v1 l1 v2 l2) (e : gIn ρ l1 l2 = some b) :
    (∃ d ds, Dp K H v1 d ∧ Dp K H v2 (.list ds) ∧ SeqAt.shaped d = true ∧ SeqAt.shaped (.list ds) = true ∧ b = ds.any fun z => PyData.eqv z d) ∨
    (∃ p xs, v2 = .ref p ∧ (SqL K H p xs ∨ SqT K H p xs) ∧ flatV v1 = true ∧ xs.all flatV = true ∧ b = inV v1 xs) ∨
    ∃ i j, v1 = .str i ∧ v2 = .str j ∧ b = !(Builtin.Str.occurrences j i 0 j.length 1).isEmpty := by
  unfold gIn at e
  split at e
  · rename_i x ys e1 e2
    split at e
    · rename_i h
      cases e
      simp only [Bool.and_eq_true] at h
      have r1 := view_ok O.env O.r1 e1
      have r2 := view_ok O.env O.r2 e2
      have c1 : x.cln = true := by have := h.1; simp only [T.shp, Bool.and_eq_true] at this; exact this.1
      have c2 : (T.lst ys).cln = true := by have := h.2; simp only [T.shp, Bool.and_eq_true] at this; exact this.1
      refine .inl ⟨_, T.pys ys, r1.dp c1, r2.dp c2, T.shaped h.1, T.shaped h.2, ?_⟩
      rw [pys_map, List.any_map]
      rfl
    · cases e
  · rename_i x ys e1 e2
    split at e
    · rename_i h
      cases e
      simp only [Bool.and_eq_true] at h
      have r1 := view_ok O.env O.r1 e1
      have r2 := view_ok O.env O.r2 e2
      cases r2 with
      | tup s a => exact .inr (.inl ⟨_, _, rfl, .inr (.of s), flat_V h.1 r1, flat_all h.2 a, (flat_in h.1 r1 h.2 a).symm⟩)
    · cases e
  · rename_i x y e1 e2
    cases e
    have r1 := view_ok O.env O.r1 e1
    have r2 := view_ok O.env O.r2 e2
    exact .inr (.inr ⟨_, _, Rep.str_inv r1, Rep.str_inv r2, rfl⟩)
  · cases e
theorem cmp_in (hu : X.A.units + 65 < cLine) : CmpR X fa .In gIn := by
  refine ⟨_, (op_inD hu).or (op_in_seq.or op_in_str), fun C0 G0 H0 G H σ ρ v1 v2 l1 l2 b Q O e q => ?_⟩
  rcases gIn_inv O e with ⟨d, ds, h1, h2, h3, h4, h5⟩ | ⟨p, xs, h1, h2, h3, h4, h5⟩ | ⟨i, j, h1, h2, h3⟩
  · subst h5; exact .inl ⟨d, ds, h1, h2, h3, h4, q⟩
  · subst h5; exact .inr (.inl ⟨p, xs, h1, h2, h3, h4, by simpa using q⟩)
  · subst h3; exact .inr (.inr ⟨i, j, h1, h2, q⟩)
theorem cmp_notIn (hu : X.A.units + 65 < cLine) : CmpR X fa .NotIn gNotIn := by
  refine ⟨_, (op_notInD hu).or (op_notIn_seq.or op_notin_str), fun C0 G0 H0 G H σ ρ v1 v2 l1 l2 b Q O e q => ?_⟩
  cases qe : gIn ρ l1 l2 with
  | none => simp [gNotIn, qe] at e
  | some b' =>
    have e : some (!b') = some b := by rw [← e]; simp [gNotIn, qe]
    cases e
    rcases gIn_inv O qe with ⟨d, ds, h1, h2, h3, h4, h5⟩ | ⟨p, xs, h1, h2, h3, h4, h5⟩ | ⟨i, j, h1, h2, h3⟩
    · subst h5; exact .inl ⟨d, ds, h1, h2, h3, h4, q⟩
    · subst h5; exact .inr (.inl ⟨p, xs, h1, h2, h3, h4, by simpa using q⟩)
    · subst h3; exact .inr (.inr ⟨i, j, h1, h2, q⟩)
end
end LW
namespace LW
open PySem PySem.Spec PyProof.Rows L2

section
variable {X : Cx} {fa : Nat → Addr} {e a b c : Expr} {es : List Expr} {d d1 d2 d3 : Den} {pos : Pos}
/-! ### arguments, as trees -/
abbrev DenA := REnv → Option (List T × REnv)
def SA (X : Cx) (fa : Nat → Addr) (es : List Expr) (d : DenA) : Prop :=
  ∃ t : TA, PA X es t ∧ ∀ (σ : L2.St) (G H : Hp) (ρ : REnv) (ts : List T) (ρ' : REnv) (Q : List V → Hp → Prop), EnvOk X.K fa G H σ ρ → d ρ = some (ts, ρ') →
    (∀ vs G' H', At X.K fa (Cl σ ρ) G H G' H' σ ρ' → RepAll X.K fa G' vs ts → Q vs H') → t σ H Q
def dNil : DenA := fun ρ => some ([], ρ)
def dCons (d : Den) (da : DenA) : DenA := fun ρ => (d ρ).bind fun p => p.1.tree.bind fun x => (da p.2).map fun q => (x :: q.1, q.2)
theorem SA.nil : SA X fa [] dNil := ⟨_, pa_nil, fun σ G H ρ ts ρ' Q E hd k => by cases hd; exact k [] G H (At.start E) .nil⟩
theorem SA.cons {da : DenA} (h : SE X fa e d) (ha : SA X fa es da) (hs : starEach (e :: es) X.env = (false, eval e X.env) :: starEach es X.env) : SA X fa (e :: es) (dCons d da) := by
  obtain ⟨t, p, r⟩ := h
  obtain ⟨t', p', r'⟩ := ha
  refine ⟨_, pa_cons p p' hs, fun σ G H ρ ts ρ' Q E hd k => ?_⟩
  cases q : d ρ with
  | none => simp [dCons, q] at hd
  | some z =>
    cases q1 : z.1.tree with
    | none => simp [dCons, q, q1] at hd
    | some x =>
      cases q2 : da z.2 with
      | none => simp [dCons, q, q1, q2] at hd
      | some w =>
        simp [dCons, q, q1, q2] at hd
        obtain ⟨rfl, rfl⟩ := hd
        refine r σ G H ρ z.1 z.2 _ E q fun v G1 H1 P => ?_
        obtain ⟨G1', E1, R1, A1, sm, _⟩ := toTree P.env P.rep P.new P.aft q1
        exact r' σ G1' H1 z.2 w.1 w.2 _ E1 q2 fun vs G2 H2 A2 Rs => k (v :: vs) G2 H2 ⟨A2.env, A1.trans A2.aft⟩ (.cons (R1.mono A2.aft.gg) Rs)
/-- a tuple, a list -/
def dTup (da : DenA) : Den := fun ρ => (da ρ).bind fun p => if p.1.length ≤ line then some (.t (.tup p.1), p.2) else none
def dLst (da : DenA) : Den := fun ρ => (da ρ).bind fun p => if p.1.length ≤ line then some (.own (.lst p.1), p.2) else none
theorem SE.tup {da : DenA} {n : Nat} (h : SA X fa es da) : SE X fa (.Tuple es n pos) (dTup da) := by
  obtain ⟨t, p, r⟩ := h
  refine ⟨_, pe_tup p, fun σ G H ρ l ρ' Q E hd k => ?_⟩
  cases q : da ρ with
  | none => simp [dTup, q] at hd
  | some z =>
    by_cases hz : z.1.length ≤ line
    · simp [dTup, q, hz] at hd
      obtain ⟨rfl, rfl⟩ := hd
      refine r σ G H ρ z.1 z.2 _ E q fun vs G1 H1 A Rs => ⟨by rw [Rs.length, ← line_eq]; exact hz, fun p np => ?_⟩
      exact k _ _ _ (A.tupR np Rs).post
    · simp [dTup, q, hz] at hd
theorem SE.lst {da : DenA} (h : SA X fa es da) : SE X fa (.List es pos) (dLst da) := by
  obtain ⟨t, p, r⟩ := h
  refine ⟨_, pe_lst p, fun σ G H ρ l ρ' Q E hd k => ?_⟩
  cases q : da ρ with
  | none => simp [dLst, q] at hd
  | some z =>
    by_cases hz : z.1.length ≤ line
    · simp [dLst, q, hz] at hd
      obtain ⟨rfl, rfl⟩ := hd
      refine r σ G H ρ z.1 z.2 _ E q fun vs G1 H1 A Rs => ⟨by rw [Rs.length, ← line_eq]; exact hz, fun p np => ?_⟩
      exact k _ _ _ (A.lstR np Rs).post
    · simp [dLst, q, hz] at hd

/-! ### a[i] -/
def sign1 (c : Nat) : Str := ⟨#[c]⟩
def gIx (ρ : REnv) (l1 l2 : L) : Option L :=
  match l2 with
  | .t (.int i) => match l1 with
    | .t (.tup xs) => (atI xs i).map .t
    | .t (.str z) => if z.length ≤ line then (atI z.cps.toList i).map fun c => .t (.str (sign1 c)) else none
    | .t (.lkl xs) => (atI xs i).map .t
    | l => (l.lview ρ).bind fun xs => (atI xs i).map .t
  | _ => none
theorem atI_rep {K : PySem.W.Frag} {G : Hp} {vs : List V} {ts : List T} {i : Int} {x : T} (r : RepAll K fa G vs ts) (h : atI ts i = some x) : ∃ v, atI vs i = some v ∧ Rep K fa G v x := by
  unfold atI at h ⊢
  rw [r.length]
  cases q : ixN ts.length i with
  | none => rw [q] at h; cases h
  | some j =>
    rw [q] at h
    exact r.get h
theorem opt_ix {K : PySem.W.Frag} : OpT K fa (rIx K) gIx := by
  intro C0 G0 H0 G H σ ρ v1 v2 l1 l2 l Q O e k
  unfold gIx at e
  split at e
  · rename_i i
    have e2 := Rep.int_inv O.r2
    split at e
    · rename_i xs
      cases q : atI xs i with
      | none => simp [q] at e
      | some x =>
        simp [q] at e
        subst e
        cases (show Rep K fa G v1 _ from O.r1) with
        | tup s a =>
          obtain ⟨v, h1, h2⟩ := atI_rep a q
          exact .inr (.inl ⟨_, _, _, v, rfl, e2, same_sqT O.env.same (.of s), h1, k _ _ _ (O.toAt.tr h2)⟩)
    · rename_i z
      split at e
      · rename_i hz
        cases q : atI z.cps.toList i with
        | none => simp [q] at e
        | some x =>
          simp [q] at e
          subst e
          exact .inr (.inr ⟨z, i, x, Rep.str_inv O.r1, e2, by rw [← line_eq]; exact hz, q, k _ _ _ (O.toAt.str _)⟩)
      · cases e
    · rename_i xs
      cases q : atI xs i with
      | none => simp [q] at e
      | some x =>
        simp [q] at e
        subst e
        cases (show Rep K fa G v1 _ from O.r1) with
        | lkl s a =>
          obtain ⟨v, h1, h2⟩ := atI_rep a q
          exact .inl ⟨_, _, _, v, rfl, e2, O.env.same.seq s, h1, k _ _ _ (O.toAt.tr h2)⟩
    · cases q0 : l1.lview ρ with
      | none => simp [q0] at e
      | some xs =>
        cases q : atI xs i with
        | none => simp [q0, q] at e
        | some x =>
          simp [q0, q] at e
          subst e
          obtain ⟨p, vs, rfl, hp, rp⟩ := lview_ok O.env O.r1 q0
          obtain ⟨v, h1, h2⟩ := atI_rep rp q
          exact .inl ⟨_, _, _, v, rfl, e2, .of hp, h1, k _ _ _ (O.toAt.tr h2)⟩
  · cases e
theorem SE.ix (h1 : SE X fa a d1) (h2 : SE X fa b d2) (hs : PlainIx b) : SE X fa (.Subscript a b pos) (den2 gIx d1 d2) := h1.two h2 (fun _ _ pa pb => pe_ix ix_seq pa pb hs) opt_ix

/-! ### a[i:j] -/
def SO (X : Cx) (fa : Nat → Addr) (e : Option Expr) (d : REnv → Option (Option Int × REnv)) : Prop :=
  ∃ t : TO, PO X e t ∧ ∀ (σ : L2.St) (G H : Hp) (ρ : REnv) (o : Option Int) (ρ' : REnv) (Q : Option Int → Hp → Prop), EnvOk X.K fa G H σ ρ → d ρ = some (o, ρ') →
    (∀ G' H', At X.K fa (Cl σ ρ) G H G' H' σ ρ' → Q o H') → t σ H Q
abbrev DenO := REnv → Option (Option Int × REnv)
def dNone : DenO := fun ρ => some (none, ρ)
def L.asInt : L → Option Int
  | .t (.int i) => some i
  | _ => none
theorem asInt_inv {l : L} {b : Int} (h : l.asInt = some b) : l = .t (.int b) := by
  unfold L.asInt at h
  split at h
  · cases h; rfl
  · cases h
def dSome (d : Den) : DenO := fun ρ => (d ρ).bind fun p => p.1.asInt.map fun i => (some i, p.2)
theorem SO.none : SO X fa none dNone := ⟨_, po_none, fun σ G H ρ o ρ' Q E hd k => by cases hd; exact k G H (At.start E)⟩
theorem SO.some (h : SE X fa e d) : SO X fa (some e) (dSome d) := by
  obtain ⟨t, p, r⟩ := h
  refine ⟨_, po_some p, fun σ G H ρ o ρ' Q E hd k => ?_⟩
  cases q : d ρ with
  | none => simp [dSome, q] at hd
  | some z =>
    cases q1 : z.1.asInt with
    | none => simp [dSome, q, q1] at hd
    | some x =>
      simp [dSome, q, q1] at hd
      obtain ⟨rfl, rfl⟩ := hd
      refine r σ G H ρ z.1 z.2 _ E q fun v G1 H1 P => ?_
      have rp := P.rep
      rw [asInt_inv q1] at rp
      exact ⟨_, Rep.int_inv rp, k _ _ ⟨P.env, P.aft⟩⟩
/-- xs[lo:hi] -/
def cutT (xs : List T) (lo hi : Option Int) : List T := (xs.drop (HT.sIx xs.length 0 lo)).take (HT.sIx xs.length xs.length hi - HT.sIx xs.length 0 lo)
theorem cut_rep {K : PySem.W.Frag} {G : Hp} {vs : List V} {ts : List T} {lo hi : Option Int} (r : RepAll K fa G vs ts) : RepAll K fa G (cutV vs lo hi) (cutT ts lo hi) := by
  unfold cutV cutT
  rw [r.length]
  exact (r.drop _).take _
def gSl (ρ : REnv) (l : L) (lo hi : Option Int) : Option L :=
  match l with
  | .t (.tup xs) => some (.t (.tup (cutT xs lo hi)))
  | .t (.str z) => if z.length ≤ line then some (.t (.str (Txt.slice z lo hi))) else none
  | .t (.lkl xs) => some (.own (.lst (cutT xs lo hi)))
  | l => (l.lview ρ).map fun xs => .own (.lst (cutT xs lo hi))
def rSlX3 (K : PySem.W.Frag) : V → Option Int → Option Int → Hp → VK → Prop := fun x lo hi H Q => rSlL K x lo hi H Q ∨ (rSlA K x lo hi H Q ∨ C8.rSlX x lo hi H Q)
def dSl (d : Den) (dl dh : DenO) : Den := fun ρ => (d ρ).bind fun p => (dl p.2).bind fun q => (dh q.2).bind fun z => (gSl z.2 p.1 q.1 z.1).map fun l => (l, z.2)
theorem take_self {α : Type} (xs : List α) {a b : Nat} (h1 : a = 0) (h2 : b = xs.length) : (xs.drop a).take (b - a) = xs := by subst h1 h2; simp
theorem sl_ok {K : PySem.W.Frag} {C0 : Addr → Prop} {G0 H0 G H : Hp} {σ : L2.St} {ρ : REnv} {v1 : V} {l1 l : L} {lo hi : Option Int} {Q : VK} (O : Ops1 K fa C0 G0 H0 G H σ ρ v1 l1) (e : gSl ρ l1 lo hi = some l)
    (k : ∀ v G' H', Ops1 K fa C0 G0 H0 G' H' σ ρ v l → Q v H') : rSlX3 K v1 lo hi H Q := by
  unfold gSl at e
  split at e
  · rename_i xs
    cases e
    cases (show Rep K fa G v1 _ from O.r1) with
    | tup s a =>
      refine .inr (.inl ⟨_, _, rfl, same_sqT O.env.same (.of s), fun hw => ?_, fun _ p np => k _ _ _ (O.toAt.tupR np (cut_rep a))⟩)
      have hl := a.length
      rw [hl] at hw
      have : cutT xs lo hi = xs := take_self xs hw.1 hw.2
      rw [this] at k
      exact k _ _ _ (O.toAt.tr (.tup s a))
  · split at e
    · rename_i z hz
      cases e
      exact .inr (.inr ⟨_, Rep.str_inv O.r1, by rw [← line_eq]; exact hz, k _ _ _ (O.toAt.str _)⟩)
    · cases e
  · cases e
    cases (show Rep K fa G v1 _ from O.r1) with
    | lkl s a => exact .inl ⟨_, _, rfl, O.env.same.seq s, fun p np => k _ _ _ (O.toAt.lstR np (cut_rep a))⟩
  · cases q0 : l1.lview ρ with
    | none => simp [q0] at e
    | some xs =>
      simp [q0] at e
      subst e
      obtain ⟨p, vs, rfl, hp, rp⟩ := lview_ok O.env O.r1 q0
      exact .inl ⟨_, _, rfl, .of hp, fun p np => k _ _ _ (O.toAt.lstR np (cut_rep rp))⟩
theorem SE.sl {lo hi : Option Expr} {dl dh : DenO} {p2 : Pos} (h : SE X fa a d) (hl : SO X fa lo dl) (hh : SO X fa hi dh) : SE X fa (.Subscript a (.Slice lo hi none p2) pos) (dSl d dl dh) := by
  obtain ⟨t, p, r⟩ := h
  obtain ⟨tl, pl, rl⟩ := hl
  obtain ⟨th, ph, rh⟩ := hh
  refine ⟨_, pe_slice (sl_list.or (sl_tupA.or C8.sl_txt)) p pl ph, fun σ G H ρ l ρ' Q E hd k => ?_⟩
  cases q : d ρ with
  | none => simp [dSl, q] at hd
  | some z =>
    cases q1 : dl z.2 with
    | none => simp [dSl, q, q1] at hd
    | some w =>
      cases q2 : dh w.2 with
      | none => simp [dSl, q, q1, q2] at hd
      | some y =>
        cases q3 : gSl y.2 z.1 w.1 y.1 with
        | none => simp [dSl, q, q1, q2, q3] at hd
        | some l' =>
          simp [dSl, q, q1, q2, q3] at hd
          obtain ⟨rfl, rfl⟩ := hd
          refine r σ G H ρ z.1 z.2 _ E q fun v G1 H1 P1 => ?_
          refine rl σ G1 H1 z.2 w.1 w.2 _ P1.env q1 fun G2 H2 A2 => ?_
          refine rh σ G2 H2 w.2 y.1 y.2 _ A2.env q2 fun G3 H3 A3 => ?_
          exact sl_ok ⟨⟨A3.env, (P1.aft.trans A2.aft).trans A3.aft⟩, (P1.rep.aft A2.aft).aft A3.aft, P1.new⟩ q3 fun v G' H' R => k v G' H' R.post
end
end LW
namespace LW
open PySem PySem.Spec PyProof.Rows L2

/-! ### one reading for all contexts -/
def tD (K : PySem.W.Frag) (fa : Nat → Addr) (d : Den) : TE := fun σ H Q => ∃ (G : Hp) (ρ : REnv) (l : L) (ρ' : REnv), EnvOk K fa G H σ ρ ∧ d ρ = some (l, ρ') ∧ ∀ v G' H', Post K fa G H σ ρ l ρ' v G' H' → Q v H'
def tDT (K : PySem.W.Frag) (fa : Nat → Addr) (d : DenT) : TT := fun σ H Q => ∃ (G : Hp) (ρ : REnv) (b : Bool) (ρ' : REnv), EnvOk K fa G H σ ρ ∧ d ρ = some (b, ρ') ∧ ∀ G' H', At K fa (Cl σ ρ) G H G' H' σ ρ' → Q b H'
section
variable {X : Cx} {fa : Nat → Addr} {e : Expr} {d : Den}
theorem SE.pe (h : SE X fa e d) : PE X e (tD X.K fa d) := by
  obtain ⟨t, p, r⟩ := h
  exact ⟨fun pins s σ H Q I ⟨G, ρ, l, ρ', E, hd, k⟩ => p.run pins s σ H Q I (r σ G H ρ l ρ' Q E hd k)⟩
theorem SE.rd (K : PySem.W.Frag) (hK : X.K = K) : Rd1 X fa (tD K fa d) d := fun σ G H ρ l ρ' Q E hd k => by
  subst hK
  exact ⟨G, ρ, l, ρ', E, hd, k⟩
theorem ST.pt {d : DenT} (h : ST X fa e d) : PT X e (tDT X.K fa d) := by
  obtain ⟨t, p, r⟩ := h
  exact ⟨fun pins s σ H Q I ⟨G, ρ, l, ρ', E, hd, k⟩ => p.run pins s σ H Q I (r σ G H ρ l ρ' Q E hd k)⟩
end

/-! ### slots stored -/
section
variable {K : PySem.W.Frag} {fa : Nat → Addr} {C0 : Addr → Prop} {G0 H0 G H G' H' : Hp} {σ σ' : L2.St} {ρ ρ' : REnv}
theorem set_get {α : Type} {xs : List α} {i j : Nat} {v w : α} (h : (xs.set i v)[j]? = some w) : (j = i ∧ w = v) ∨ (j ≠ i ∧ xs[j]? = some w) := by
  by_cases e : i = j
  · subst e
    have hi : i < xs.length := by
      have := (List.getElem?_eq_some_iff.mp h).1
      simpa using this
    rw [List.getElem?_set_self hi] at h
    cases h
    exact .inl ⟨rfl, rfl⟩
  · rw [List.getElem?_set_ne e] at h
    exact .inr ⟨fun z => e z.symm, h⟩
theorem set_ne {α : Type} {xs : List α} {i j : Nat} {v w : α} (h : j ≠ i) (e : xs[j]? = some w) : (xs.set i v)[j]? = some w := by
  rw [List.getElem?_set_ne (fun z => h z.symm)]
  exact e
theorem Cl.set_t {i : Nat} {v : Option V} {l : L} (nl : ∀ c, l ≠ .own c) {a : Addr} (h : Cl (σ.set i v) (ρ.set i l) a) : Cl σ ρ a := by
  obtain ⟨j, c, e1, e2⟩ := h
  rcases set_get e1 with ⟨_, e⟩ | ⟨n, e⟩
  · exact absurd e.symm (nl c)
  · rcases set_get e2 with ⟨z, _⟩ | ⟨_, e'⟩
    · exact absurd z n
    · exact ⟨j, c, e, e'⟩
theorem EnvOk.set_t (E : EnvOk K fa G H σ ρ) {i : Nat} {v : V} {x : T} (hi : i < ρ.length) (r : Rep K fa G v x) : EnvOk K fa G H (σ.set i (some v)) (ρ.set i (.t x)) := by
  have hs : i < σ.length := by rw [← E.len]; exact hi
  refine ⟨E.same, by simp [E.len], fun j y e => ?_, fun j c e => ?_, fun j k c c' a e1 e2 e3 e4 => ?_⟩
  · rcases set_get e with ⟨rfl, e'⟩ | ⟨n, e⟩
    · cases e'
      exact ⟨v, List.getElem?_set_self hs, r⟩
    · obtain ⟨w, h1, h2⟩ := E.t j y e
      exact ⟨w, set_ne n h1, h2⟩
  · rcases set_get e with ⟨_, e⟩ | ⟨n, e⟩
    · cases e
    · obtain ⟨a, o, h1, h2⟩ := E.own j c e
      exact ⟨a, o, set_ne n h1, h2⟩
  · rcases set_get e1 with ⟨_, e⟩ | ⟨n, f1⟩
    · cases e
    · rcases set_get e2 with ⟨_, e⟩ | ⟨m, f2⟩
      · cases e
      · rcases set_get e3 with ⟨z, _⟩ | ⟨_, f3⟩
        · exact absurd z n
        · rcases set_get e4 with ⟨z, _⟩ | ⟨_, f4⟩
          · exact absurd z m
          · exact E.inj j k c c' a f1 f2 f3 f4
theorem EnvOk.set_own (E : EnvOk K fa G H σ ρ) {i : Nat} {v : V} {c : OC} (hi : i < ρ.length) (r : LRep K fa G H (Cl σ ρ) σ v (.own c)) : EnvOk K fa G H (σ.set i (some v)) (ρ.set i (.own c)) := by
  have hs : i < σ.length := by rw [← E.len]; exact hi
  obtain ⟨p, o, rfl, g, nc, hh, ro⟩ := r
  refine ⟨E.same, by simp [E.len], fun j y e => ?_, fun j c e => ?_, fun j k c c' a e1 e2 e3 e4 => ?_⟩
  · rcases set_get e with ⟨_, e⟩ | ⟨n, e⟩
    · cases e
    · obtain ⟨w, h1, h2⟩ := E.t j y e
      exact ⟨w, set_ne n h1, h2⟩
  · rcases set_get e with ⟨rfl, e'⟩ | ⟨n, e⟩
    · cases e'
      exact ⟨p, o, List.getElem?_set_self hs, g, hh, ro⟩
    · obtain ⟨a, o, h1, h2⟩ := E.own j c e
      exact ⟨a, o, set_ne n h1, h2⟩
  · rcases set_get e1 with ⟨rfl, e⟩ | ⟨n, f1⟩
    · rcases set_get e2 with ⟨rfl, e⟩ | ⟨m, f2⟩
      · rfl
      · rw [List.getElem?_set_self hs] at e3
        cases e3
        rcases set_get e4 with ⟨z, _⟩ | ⟨_, f4⟩
        · exact absurd z m
        · exact absurd ⟨k, c', f2, f4⟩ nc
    · rcases set_get e2 with ⟨rfl, e⟩ | ⟨m, f2⟩
      · rw [List.getElem?_set_self hs] at e4
        cases e4
        rcases set_get e3 with ⟨z, _⟩ | ⟨_, f3⟩
        · exact absurd z n
        · exact absurd ⟨j, c, f1, f3⟩ nc
      · rcases set_get e3 with ⟨z, _⟩ | ⟨_, f3⟩
        · exact absurd z n
        · rcases set_get e4 with ⟨z, _⟩ | ⟨_, f4⟩
          · exact absurd z m
          · exact E.inj j k c c' a f1 f2 f3 f4
theorem Cl.set_own {i : Nat} {p a : Addr} {c : OC} (h : Cl (σ.set i (some (.ref p))) (ρ.set i (.own c)) a) : a = p ∨ Cl σ ρ a := by
  obtain ⟨j, c', e1, e2⟩ := h
  rcases set_get e2 with ⟨rfl, e⟩ | ⟨n, e⟩
  · cases e; exact .inl rfl
  · rcases set_get e1 with ⟨z, _⟩ | ⟨_, f⟩
    · exact absurd z n
    · exact .inr ⟨j, c', f, e⟩
/-- a slot is forgotten -/
theorem EnvOk.hide (E : EnvOk K fa G H σ ρ) (i : Nat) : EnvOk K fa G H σ (ρ.set i .un) := by
  refine ⟨E.same, by simp [E.len], fun j y e => ?_, fun j c e => ?_, fun j k c c' a e1 e2 e3 e4 => ?_⟩
  · rcases set_get e with ⟨_, e⟩ | ⟨n, e⟩
    · cases e
    · exact E.t j y e
  · rcases set_get e with ⟨_, e⟩ | ⟨n, e⟩
    · cases e
    · exact E.own j c e
  · rcases set_get e1 with ⟨_, e⟩ | ⟨n, f1⟩
    · cases e
    · rcases set_get e2 with ⟨_, e⟩ | ⟨m, f2⟩
      · cases e
      · exact E.inj j k c c' a f1 f2 e3 e4
theorem Cl.hide {i : Nat} {a : Addr} (h : Cl σ (ρ.set i .un) a) : Cl σ ρ a := by
  obtain ⟨j, c, e1, e2⟩ := h
  rcases set_get e1 with ⟨_, e⟩ | ⟨_, e⟩
  · cases e
  · exact ⟨j, c, e, e2⟩
/-- what does not touch the slots' own objects leaves the slots -/
theorem EnvOk.carry {C C' : Addr → Prop} (E : EnvOk K fa G H σ ρ) (a : Aft C C' G H G' H') (s : Same G' H') (n : ∀ b, Cl σ ρ b → ¬ C b) : EnvOk K fa G' H' σ ρ := by
  refine ⟨s, E.len, fun i x e => ?_, fun i c e => ?_, E.inj⟩
  · obtain ⟨v, h1, h2⟩ := E.t i x e
    exact ⟨v, h1, h2.mono a.gg⟩
  · obtain ⟨p, o, h1, h2, h3, h4⟩ := E.own i c e
    have nc := n p ⟨i, c, e, h1⟩
    exact ⟨p, o, h1, a.gn p o h3 nc h2, a.keep p o h3 nc, h4.mono a.gg⟩
theorem Aft.wide {C C' D : Addr → Prop} (a : Aft C C' G H G' H') (h : ∀ b, C b → D b) : Aft D D G H G' H' :=
  ⟨a.gg, fun p o e n => a.keep p o e fun c => n (h p c), fun p o e n g => a.gn p o e (fun c => n (h p c)) g, a.there, fun _ c => .inl c⟩
end

/-! ### targets -/
abbrev DenG := T → REnv → Option REnv
/-- what is known of the slots behind a target: those of as alone have changed -/
structure Slots (as : List Nat) (σ σ' : L2.St) : Prop where
  len : σ'.length = σ.length
  keep : ∀ i, i ∉ as → σ'[i]? = σ[i]?
theorem Slots.refl {as : List Nat} {σ : L2.St} : Slots as σ σ := ⟨rfl, fun _ _ => rfl⟩
theorem Slots.trans {as bs : List Nat} {σ σ1 σ2 : L2.St} (a : Slots as σ σ1) (b : Slots bs σ1 σ2) : Slots (as ++ bs) σ σ2 :=
  ⟨b.len.trans a.len, fun i h => (b.keep i fun z => h (List.mem_append_right _ z)).trans (a.keep i fun z => h (List.mem_append_left _ z))⟩
theorem Slots.mono {as bs : List Nat} {σ σ' : L2.St} (a : Slots as σ σ') (h : ∀ i ∈ as, i ∈ bs) : Slots bs σ σ' := ⟨a.len, fun i n => a.keep i fun z => n (h i z)⟩
theorem Slots.set {i : Nat} {σ : L2.St} {v : Option V} : Slots [i] σ (σ.set i v) := ⟨by simp, fun j h => List.getElem?_set_ne fun z => h (by simp [z])⟩
theorem wipe_get (σ : L2.St) : ∀ (vs : List Nat) (i : Nat), (wipe σ vs)[i]? = if i ∈ vs then (if i < σ.length then some none else none) else σ[i]?
  | [], i => by simp [wipe]
  | v :: vs, i => by
    unfold wipe
    by_cases h : v = i
    · subst h
      rw [if_pos (List.mem_cons_self)]
      by_cases hl : v < σ.length
      · rw [if_pos hl, List.getElem?_set_self (by rw [wipe_length]; exact hl)]
      · rw [if_neg hl]
        exact List.getElem?_eq_none (by rw [List.length_set, wipe_length]; omega)
    · rw [List.getElem?_set_ne h, wipe_get σ vs i]
      by_cases hm : i ∈ vs
      · rw [if_pos hm, if_pos (List.mem_cons_of_mem _ hm)]
      · rw [if_neg hm, if_neg]
        intro z
        rcases List.mem_cons.mp z with z | z
        · exact h z.symm
        · exact hm z
theorem Slots.wiped {as vs : List Nat} {σ σ' : L2.St} (a : Slots as σ σ') (h : ∀ i ∈ as, i ∈ vs) : wipe σ' vs = wipe σ vs := by
  apply List.ext_getElem?
  intro i
  rw [wipe_get, wipe_get, a.len]
  split
  · rfl
  · rename_i n
    exact a.keep i fun z => n (h i z)
def tDG (K : PySem.W.Frag) (fa : Nat → Addr) (as : List Nat) (g : DenG) : TG := fun v σ H Q => ∃ (G : Hp) (ρ : REnv) (x : T) (ρ' : REnv), EnvOk K fa G H σ ρ ∧ Rep K fa G v x ∧ g x ρ = some ρ' ∧
  ∀ σ', EnvOk K fa G H σ' ρ' → (∀ a, Cl σ' ρ' a → Cl σ ρ a) → Slots as σ σ' → Q σ' H
def SG (X : Cx) (fa : Nat → Addr) (tg : Expr) (as : List Nat) (g : DenG) : Prop := PG X tg (tDG X.K fa as g)
def gNameT (i : Nat) : DenG := fun x ρ => if i < ρ.length then some (ρ.set i (.t x)) else none
/-- several targets one after the other -/
abbrev DenGs := List T → REnv → Option REnv
def tDGs (K : PySem.W.Frag) (fa : Nat → Addr) (as : List Nat) (g : DenGs) : TGs := fun vs σ H Q => ∃ (G : Hp) (ρ : REnv) (xs : List T) (ρ' : REnv), EnvOk K fa G H σ ρ ∧ RepAll K fa G vs xs ∧ g xs ρ = some ρ' ∧
  ∀ σ', EnvOk K fa G H σ' ρ' → (∀ a, Cl σ' ρ' a → Cl σ ρ a) → Slots as σ σ' → Q σ' H
def SGs (X : Cx) (fa : Nat → Addr) (ts : List Expr) (as : List Nat) (g : DenGs) : Prop := PGs X ts (tDGs X.K fa as g)
def gNilT : DenGs := fun xs ρ => match xs with | [] => some ρ | _ => none
def gConsT (g : DenG) (gs : DenGs) : DenGs := fun xs ρ => match xs with | [] => none | x :: r => (g x ρ).bind (gs r)
def gTupT (n : Nat) (gs : DenGs) : DenG := fun x ρ => match x with
  | .tup xs => if xs.length = n then gs xs ρ else none
  | _ => none
section
variable {X : Cx} {fa : Nat → Addr} {e tg : Expr} {es : List Expr} {pos : Pos}
theorem SG.name {i : Nat} {x : Str} (hN : X.N.Nodup) (hi : X.N[i]? = some x) (hx : Loc X.env.scope x) (hf : X.fn x = true ∨ X.env.scope.names.lookup x = some .local) : SG X fa (.Name x pos) [i] (gNameT i) := by
  have p : PG X (.Name x pos) (gName i) := pg_name hN hi hx hf
  refine ⟨fun pins s σ H v u Q I r ⟨G, ρ, y, ρ', E, ry, hg, k⟩ => p.run pins s σ H v u Q I r ?_⟩
  unfold gNameT at hg
  split at hg
  · rename_i hl
    cases hg
    exact k _ (E.set_t hl ry) (fun a h => Cl.set_t (fun c z => by cases z) h) Slots.set
  · cases hg
theorem SGs.nil : SGs X fa [] [] gNilT := ⟨fun pins s σ H vs us Q I r ⟨G, ρ, xs, ρ', E, rx, hg, k⟩ => by
  cases xs with
  | nil =>
    cases hg
    cases rx
    exact pgs_nil.run pins s σ H [] us Q I r ⟨rfl, k σ E (fun _ h => h) Slots.refl⟩
  | cons x xs => cases hg⟩
theorem SGs.cons {as bs : List Nat} {g : DenG} {gs : DenGs} (h1 : SG X fa e as g) (h2 : SGs X fa es bs gs) (hs : (assignEach (e :: es) X.env).map (·.2) = assign e X.env :: (assignEach es X.env).map (·.2)) : SGs X fa (e :: es) (as ++ bs) (gConsT g gs) :=
  ⟨fun pins s σ H vs us Q I r ⟨G, ρ, xs, ρ', E, rx, hg, k⟩ => by
  refine (pgs_cons h1 h2 hs).run pins s σ H vs us Q I r ?_
  cases xs with
  | nil => cases hg
  | cons x xs =>
    cases rx with
    | @cons v vs _ _ a b =>
      cases q : g x ρ with
      | none => simp [gConsT, q] at hg
      | some ρ1 =>
        simp [gConsT, q] at hg
        exact ⟨v, vs, rfl, G, ρ, x, ρ1, E, a, q, fun σ1 E1 c1 s1 => ⟨G, ρ1, xs, ρ', E1, b, hg, fun σ2 E2 c2 s2 => k σ2 E2 (fun a h => c1 a (c2 a h)) (s1.trans s2)⟩⟩⟩
theorem SG.tup {as : List Nat} {gs : DenGs} {kk n : Nat} (hc : X.calm = true) (h : SGs X fa es as gs) (hn : (assignEach es X.env).length = n) (hst : (assignEach es X.env).findIdx? (·.1) = none) : SG X fa (.Tuple es kk pos) as (gTupT n gs) :=
  ⟨fun pins s σ H v u Q I r ⟨G, ρ, x, ρ', E, rx, hg, k⟩ => by
  refine (pg_tup hc h hn hst).run pins s σ H v u Q I r ?_
  unfold gTupT at hg
  split at hg
  · rename_i xs
    split at hg
    · rename_i hl
      cases rx with
      | tup s1 a =>
        exact ⟨_, _, rfl, same_sqT E.same (.of s1), by rw [a.length]; exact hl, G, ρ, xs, ρ', E, a, hg, k⟩
    · cases hg
  · cases hg⟩
end

/-! ### what a loop walks -/
def Non : Addr → Prop := fun _ => False
structure Walks (K : PySem.W.Frag) (fa : Nat → Addr) (J : It) (bs : List Addr) (xs : List T) (Kp : Hp → Hp → Prop) : Prop where
  go : ∀ (i : Nat) (G H : Hp) (x : T), Kp G H → Same G H → xs[i]? = some x → J.go i H ∧ ∀ v H', J.yld i H v H' → ∃ G', Aft Non Non G H G' H' ∧ Same G' H' ∧ Rep K fa G' v x
  stop : ∀ (i : Nat) (G H : Hp), Kp G H → Same G H → xs.length ≤ i → J.stop i H
  stb : ∀ (C C' : Addr → Prop) (G H G' H' : Hp), Kp G H → Aft C C' G H G' H' → (∀ b ∈ bs, ¬ C b) → Kp G' H'
def hideO (ho : Option Nat) (ρ : REnv) : REnv := match ho with
  | none => ρ
  | some i => ρ.set i .un
abbrev DenI := REnv → Option (List T × Option Nat × REnv)
def SI (X : Cx) (fa : Nat → Addr) (tg iter : Expr) (d : DenI) : Prop :=
  ∃ wi : TI, PI X tg iter wi ∧ ∀ (σ : L2.St) (G H : Hp) (ρ : REnv) (xs : List T) (ho : Option Nat) (ρ' : REnv) (R : It → Hp → Prop), EnvOk X.K fa G H σ ρ → d ρ = some (xs, ho, ρ') →
    (∀ J bs Kp G' H', At X.K fa (Cl σ ρ) G H G' H' σ ρ' → Walks X.K fa J bs xs Kp → Kp G' H' → (∀ b ∈ bs, H' b ≠ none ∧ ¬ Cl σ (hideO ho ρ') b) → R J H') → wi σ H R
section
variable {K : PySem.W.Frag} {fa : Nat → Addr}
theorem Aft.same {G H : Hp} : Aft Non Non G H G H := ⟨Same.refl _, fun _ _ h _ => h, fun _ _ _ _ h => h, fun _ h => h, fun _ h => h.elim⟩
/-- a list that stays, tracked, not the frozen part's -/
theorem walks_own {a : Addr} {vs : List V} {xs : List T} : Walks K fa (Itl K a) [a] xs (fun G H => H a = some (.lst vs) ∧ RepAll K fa G vs xs) where
  go := fun i G H x ⟨h, r⟩ s e => by
    obtain ⟨v, h1, h2⟩ := r.get e
    refine ⟨⟨vs, v, .of h, h1⟩, fun w H' hy => ?_⟩
    obtain ⟨rfl, f⟩ := hy
    have : w = v := Option.some.inj ((f vs (.of h)).symm.trans h1)
    subst this
    exact ⟨G, Aft.same, s, h2⟩
  stop := fun i G H ⟨h, r⟩ s hi => ⟨vs, .of h, by rw [r.length]; exact hi⟩
  stb := fun C C' G H G' H' ⟨h, r⟩ a n => ⟨a.keep _ _ h (n _ (by simp)), r.mono a.gg⟩
theorem walks_l {a : Addr} {vs : List V} {xs : List T} : Walks K fa (Itl K a) [] xs (fun G H => SqL K G a vs ∧ RepAll K fa G vs xs) where
  go := fun i G H x ⟨h, r⟩ s e => by
    obtain ⟨v, h1, h2⟩ := r.get e
    refine ⟨⟨vs, v, s.seq h, h1⟩, fun w H' hy => ?_⟩
    obtain ⟨rfl, f⟩ := hy
    have : w = v := Option.some.inj ((f vs (s.seq h)).symm.trans h1)
    subst this
    exact ⟨G, Aft.same, s, h2⟩
  stop := fun i G H ⟨h, r⟩ s hi => ⟨vs, s.seq h, by rw [r.length]; exact hi⟩
  stb := fun C C' G H G' H' ⟨h, r⟩ a n => ⟨a.gg.seq h, r.mono a.gg⟩
end
end LW
namespace LW
open PySem PySem.Spec PyProof.Rows L2

section
variable {K : PySem.W.Frag} {fa : Nat → Addr}
theorem walks_t {a : Addr} {vs : List V} {xs : List T} : Walks K fa (Itt K a) [] xs (fun G H => SqT K G a vs ∧ RepAll K fa G vs xs) where
  go := fun i G H x ⟨h, r⟩ s e => by
    obtain ⟨v, h1, h2⟩ := r.get e
    refine ⟨⟨vs, v, same_sqT s h, h1⟩, fun w H' hy => ?_⟩
    obtain ⟨rfl, f⟩ := hy
    have : w = v := Option.some.inj ((f vs (same_sqT s h)).symm.trans h1)
    subst this
    exact ⟨G, Aft.same, s, h2⟩
  stop := fun i G H ⟨h, r⟩ s hi => ⟨vs, same_sqT s h, by rw [r.length]; exact hi⟩
  stb := fun C C' G H G' H' ⟨h, r⟩ a n => ⟨same_sqT a.gg h, r.mono a.gg⟩
def signs (x : Str) : List T := x.cps.toList.map fun c => .str (sign1 c)
theorem walks_s {x : Str} : Walks K fa (Its x) [] (signs x) (fun _ _ => True) where
  go := fun i G H y _ s e => by
    have hi : i < x.cps.toList.length := by
      have := (List.getElem?_eq_some_iff.mp e).1
      simpa [signs] using this
    have e2 : x.cps[i]? = some x.cps.toList[i] := by simp
    refine ⟨(show i < x.cps.size by simpa using hi), fun w H' hy => ?_⟩
    obtain ⟨rfl, c, h1, rfl⟩ := hy
    refine ⟨G, Aft.same, s, ?_⟩
    have : y = .str (sign1 c) := by
      simp only [signs, List.getElem?_map] at e
      rw [Array.getElem?_toList, h1] at e
      simpa using e.symm
    subst this
    exact .str _
  stop := fun i G H _ s hi => by
    show x.cps.size ≤ i
    simpa [signs] using hi
  stb := fun _ _ _ _ _ _ _ _ _ => trivial
def rangeT (lo c : Int) (n : Nat) : List T := (List.range n).map fun i => .int (lo + (i : Nat) * c)
theorem walks_r {lo c : Int} {n : Nat} : Walks K fa (Itc lo c n) [] (rangeT lo c n) (fun _ _ => True) where
  go := fun i G H y _ s e => by
    have hi : i < n := by
      have := (List.getElem?_eq_some_iff.mp e).1
      simpa [rangeT] using this
    refine ⟨hi, fun w H' hy => ?_⟩
    obtain ⟨rfl, rfl⟩ := hy
    refine ⟨G, Aft.same, s, ?_⟩
    have : y = .int (lo + (i : Nat) * c) := by
      simp [rangeT, hi] at e
      exact e.symm
    subst this
    exact .int _
  stop := fun i G H _ s hi => by
    show n ≤ i
    simpa [rangeT] using hi
  stb := fun _ _ _ _ _ _ _ _ _ => trivial
def rangeU (lo : Int) (n : Nat) : List T := (List.range n).map fun i => .int (lo + (i : Nat))
theorem walks_u {lo : Int} {n : Nat} : Walks K fa (Itr lo n) [] (rangeU lo n) (fun _ _ => True) where
  go := fun i G H y _ s e => by
    have hi : i < n := by
      have := (List.getElem?_eq_some_iff.mp e).1
      simpa [rangeU] using this
    refine ⟨hi, fun w H' hy => ?_⟩
    obtain ⟨rfl, rfl⟩ := hy
    refine ⟨G, Aft.same, s, ?_⟩
    have : y = .int (lo + (i : Nat)) := by
      simp [rangeU, hi] at e
      exact e.symm
    subst this
    exact .int _
  stop := fun i G H _ s hi => by
    show n ≤ i
    simpa [rangeU] using hi
  stb := fun _ _ _ _ _ _ _ _ _ => trivial
/-- a tuple just made by the iterator -/
theorem yld_tup {G H : Hp} {T0 : Addr} {ys : List V} {ts : List T} (s : Same G H) (n : H T0 = none) (r : RepAll K fa G ys ts) :
    ∃ G', Aft Non Non G H G' (upd H T0 (.tup ys)) ∧ Same G' (upd H T0 (.tup ys)) ∧ Rep K fa G' (.ref T0) (.tup ts) := by
  have E : EnvOk K fa G H [] [] := ⟨s, rfl, fun i x e => by simp at e, fun i c e => by simp at e, fun i j c c' a e => by simp at e⟩
  have cn : ∀ a, ¬ Cl [] [] a := fun a ⟨i, c, e, _⟩ => by simp at e
  obtain ⟨A, R⟩ := (At.start E).newTup n r
  refine ⟨_, ⟨A.aft.gg, fun p o e _ => A.aft.keep p o e (cn p), fun p o e _ g => A.aft.gn p o e (cn p) g, A.aft.there, fun _ h => h.elim⟩, A.env.same, R⟩
def enumT (xs : List T) : List T := xs.zipIdx.map fun p => .tup [.int (p.2 : Nat), p.1]
theorem enumT_get {xs : List T} {i : Nat} {y : T} (h : (enumT xs)[i]? = some y) : ∃ x, xs[i]? = some x ∧ y = .tup [.int (i : Nat), x] := by
  simp only [enumT, List.getElem?_map, List.getElem?_zipIdx] at h
  cases q : xs[i]? with
  | none => simp [q] at h
  | some x =>
    simp [q] at h
    exact ⟨x, rfl, h.symm⟩
theorem enumT_len (xs : List T) : (enumT xs).length = xs.length := by simp [enumT]
theorem walks_en {a : Addr} {vs : List V} {xs : List T} {bs : List Addr} {Kp : Hp → Hp → Prop} (hk : ∀ G H, Kp G H → Same G H → SqL K H a vs ∧ RepAll K fa G vs xs)
    (stb : ∀ (C C' : Addr → Prop) (G H G' H' : Hp), Kp G H → Aft C C' G H G' H' → (∀ b ∈ bs, ¬ C b) → Kp G' H') : Walks K fa (Ite K a) bs (enumT xs) Kp where
  go := fun i G H y kp s e => by
    obtain ⟨h, r⟩ := hk G H kp s
    obtain ⟨x, ex, rfl⟩ := enumT_get e
    obtain ⟨v, h1, h2⟩ := r.get ex
    refine ⟨⟨vs, v, h, h1⟩, fun w H' hy => ?_⟩
    obtain ⟨T0, z, rfl, n, rfl, f⟩ := hy
    have : z = v := Option.some.inj ((f vs h).symm.trans h1)
    subst this
    exact yld_tup s n (.cons (.int _) (.one h2))
  stop := fun i G H kp s hi => by
    obtain ⟨h, r⟩ := hk G H kp s
    exact ⟨vs, h, by rw [r.length]; rw [enumT_len] at hi; exact hi⟩
  stb := stb
def zipT : List T → List T → List T
  | x :: xs, y :: ys => .tup [x, y] :: zipT xs ys
  | _, _ => []
theorem zipT_get : ∀ {xs ys : List T} {i : Nat} {z : T}, (zipT xs ys)[i]? = some z → ∃ x y, xs[i]? = some x ∧ ys[i]? = some y ∧ z = .tup [x, y]
  | [], ys, i, z, h => by simp [zipT] at h
  | x :: xs, [], i, z, h => by simp [zipT] at h
  | x :: xs, y :: ys, 0, z, h => by
    simp [zipT] at h
    exact ⟨x, y, rfl, rfl, h.symm⟩
  | x :: xs, y :: ys, i + 1, z, h => by
    simp only [zipT, List.getElem?_cons_succ] at h
    obtain ⟨a, b, h1, h2, h3⟩ := zipT_get h
    exact ⟨a, b, by simpa using h1, by simpa using h2, h3⟩
theorem zipT_end : ∀ {xs ys : List T} {i : Nat}, (zipT xs ys).length ≤ i → xs.length ≤ i ∨ ys.length ≤ i
  | [], ys, i, h => .inl (by simp)
  | x :: xs, [], i, h => .inr (by simp)
  | x :: xs, y :: ys, 0, h => by simp [zipT] at h
  | x :: xs, y :: ys, i + 1, h => by
    simp only [zipT, List.length_cons] at h ⊢
    rcases zipT_end (xs := xs) (ys := ys) (i := i) (by omega) with z | z
    · exact .inl (by omega)
    · exact .inr (by omega)
theorem walks_z {a b : Addr} {vs ws : List V} {xs ys : List T} {bs : List Addr} {Kp : Hp → Hp → Prop} (hk : ∀ G H, Kp G H → Same G H → SqL K H a vs ∧ RepAll K fa G vs xs ∧ SqL K H b ws ∧ RepAll K fa G ws ys)
    (stb : ∀ (C C' : Addr → Prop) (G H G' H' : Hp), Kp G H → Aft C C' G H G' H' → (∀ b ∈ bs, ¬ C b) → Kp G' H') : Walks K fa (Itz K a b) bs (zipT xs ys) Kp where
  go := fun i G H y kp s e => by
    obtain ⟨h, r, h', r'⟩ := hk G H kp s
    obtain ⟨x, y, ex, ey, rfl⟩ := zipT_get e
    obtain ⟨v, h1, h2⟩ := r.get ex
    obtain ⟨v', h1', h2'⟩ := r'.get ey
    refine ⟨⟨vs, ws, v, v', h, h', h1, h1'⟩, fun w H' hy => ?_⟩
    obtain ⟨T0, z, z', rfl, n, rfl, f, f'⟩ := hy
    have : z = v := Option.some.inj ((f vs h).symm.trans h1)
    subst this
    have : z' = v' := Option.some.inj ((f' ws h').symm.trans h1')
    subst this
    exact yld_tup s n (.cons h2 (.one h2'))
  stop := fun i G H kp s hi => by
    obtain ⟨h, r, h', r'⟩ := hk G H kp s
    refine ⟨vs, ws, h, h', ?_⟩
    rw [r.length, r'.length]
    exact zipT_end hi
  stb := stb
theorem walks_zt {a b : Addr} {vs ws : List V} {xs ys : List T} : Walks K fa (RZ.ItzT K a b) [] (zipT xs ys) (fun G H => SqT K G a vs ∧ RepAll K fa G vs xs ∧ SqT K G b ws ∧ RepAll K fa G ws ys) where
  go := fun i G H y ⟨h, r, h', r'⟩ s e => by
    obtain ⟨x, y, ex, ey, rfl⟩ := zipT_get e
    obtain ⟨v, h1, h2⟩ := r.get ex
    obtain ⟨v', h1', h2'⟩ := r'.get ey
    refine ⟨⟨vs, ws, v, v', same_sqT s h, same_sqT s h', h1, h1'⟩, fun w H' hy => ?_⟩
    obtain ⟨T0, z, z', rfl, n, rfl, f, f'⟩ := hy
    have : z = v := Option.some.inj ((f vs (same_sqT s h)).symm.trans h1)
    subst this
    have : z' = v' := Option.some.inj ((f' ws (same_sqT s h')).symm.trans h1')
    subst this
    exact yld_tup s n (.cons h2 (.one h2'))
  stop := fun i G H ⟨h, r, h', r'⟩ s hi => by
    refine ⟨vs, ws, same_sqT s h, same_sqT s h', ?_⟩
    rw [r.length, r'.length]
    exact zipT_end hi
  stb := fun C C' G H G' H' ⟨h, r, h', r'⟩ a n => ⟨same_sqT a.gg h, r.mono a.gg, same_sqT a.gg h', r'.mono a.gg⟩
/-- an operand that is a list, walked: what has to stay, what is hidden from the body -/
def L.hid (ρ : REnv) : L → Option Nat
  | .ref i => some i
  | _ => none
theorem Rd_at {G H : Hp} {a : Addr} {vs : List V} (s : Same G H) (h : G a = some (.lst vs)) : SqL K H a vs := .of (s _ _ h)
/-- a list operand through a loop: its address, and a condition that stays -/
theorem stays {C0 : Addr → Prop} {G0 H0 G H : Hp} {σ : L2.St} {ρ : REnv} {v : V} {l : L} {xs : List T} (O : Ops1 K fa C0 G0 H0 G H σ ρ v l) (e : l.lview ρ = some xs) :
    ∃ (a : Addr) (vs : List V) (bs : List Addr) (Kp : Hp → Hp → Prop), v = .ref a ∧ Kp G H ∧ SqL K H a vs ∧ (∀ G H, Kp G H → Same G H → SqL K H a vs ∧ RepAll K fa G vs xs) ∧
      (∀ (C C' : Addr → Prop) (G H G' H' : Hp), Kp G H → Aft C C' G H G' H' → (∀ b ∈ bs, ¬ C b) → Kp G' H') ∧ ∀ b ∈ bs, H b ≠ none ∧ ¬ Cl σ (hideO (l.hid ρ) ρ) b := by
  obtain ⟨A, r, nw⟩ := O
  cases l with
  | un => cases e
  | t y =>
    cases y with
    | lst ys =>
      cases e
      cases (show Rep K fa G v _ from r) with
      | @lst a vs _ g rr =>
        exact ⟨a, vs, [], fun G H => SqL K G a vs ∧ RepAll K fa G vs xs, rfl, ⟨.of g, rr⟩, .of (A.env.same _ _ g), fun G H ⟨h1, h2⟩ s => ⟨s.seq h1, h2⟩, fun C C' G H G' H' ⟨h1, h2⟩ a n => ⟨a.gg.seq h1, h2.mono a.gg⟩, fun b hb => by simp at hb⟩
    | _ => cases e
  | own c =>
    cases c with
    | lst ys =>
      cases e
      obtain ⟨p, o, rfl, g, n, hh, rr⟩ := r
      cases o with
      | lst vs =>
        refine ⟨p, vs, [p], fun G H => H p = some (.lst vs) ∧ RepAll K fa G vs xs, rfl, ⟨hh, rr⟩, .of hh, fun G H ⟨h1, h2⟩ s => ⟨.of h1, h2⟩, fun C C' G H G' H' ⟨h1, h2⟩ a nn => ⟨a.keep _ _ h1 (nn p (by simp)), h2.mono a.gg⟩, fun b hb => ?_⟩
        have : b = p := by simpa using hb
        subst this
        exact ⟨by rw [hh]; simp, n⟩
      | _ => exact (show False from rr).elim
    | _ => cases e
  | ref i =>
    cases q : ρ[i]? with
    | none => simp only [L.lview, q] at e; cases e
    | some m =>
      simp only [L.lview, q] at e
      cases m with
      | own c =>
        cases c with
        | lst ys =>
          cases e
          obtain ⟨p, o, e1, e2, e3, e4⟩ := A.env.own i _ q
          have e5 : σ[i]? = some (some v) := r
          rw [e1] at e5; cases e5
          cases o with
          | lst vs =>
            refine ⟨p, vs, [p], fun G H => H p = some (.lst vs) ∧ RepAll K fa G vs xs, rfl, ⟨e3, e4⟩, .of e3, fun G H ⟨h1, h2⟩ s => ⟨.of h1, h2⟩, fun C C' G H G' H' ⟨h1, h2⟩ a nn => ⟨a.keep _ _ h1 (nn p (by simp)), h2.mono a.gg⟩, fun b hb => ?_⟩
            have : b = p := by simpa using hb
            subst this
            refine ⟨by rw [e3]; simp, fun ⟨j, c, f1, f2⟩ => ?_⟩
            have f1 : (ρ.set i .un)[j]? = some (.own c) := f1
            rcases set_get f1 with ⟨_, z⟩ | ⟨n, z⟩
            · cases z
            · exact n (A.env.inj j i _ _ _ z q f2 e1)
          | _ => exact (show False from e4).elim
        | _ => cases e
      | _ => cases e
end
section
variable {X : Cx} {fa : Nat → Addr} {e e2 tg : Expr} {d d1 d2 : Den} {pos : Pos}
/-- for x in a list, a tuple, a text -/
def iSeq (d : Den) : DenI := fun ρ => (d ρ).bind fun p => match p.1 with
  | .t (.tup xs) => some (xs, none, p.2)
  | .t (.str x) => some (signs x, none, p.2)
  | .t (.lkl xs) => some (xs, none, p.2)
  | l => (l.lview p.2).map fun xs => (xs, l.hid p.2, p.2)
theorem pi_or {w w' : TI} (h : PI X tg e w) (h' : PI X tg e w') : PI X tg e (fun σ H R => w σ H R ∨ w' σ H R) :=
  ⟨fun pins s σ H R I q => q.elim (h.run pins s σ H R I) (h'.run pins s σ H R I)⟩
theorem SI.seq (h : SE X fa e d) : SI X fa tg e (iSeq d) := by
  have p := h.pe
  refine ⟨_, pi_or (pi_list p) (pi_or (pi_tup p) (pi_str p)), fun σ G H ρ xs ho ρ' R E hd k => ?_⟩
  cases q : d ρ with
  | none => simp [iSeq, q] at hd
  | some z =>
    simp only [iSeq, q, Option.bind_some] at hd
    split at hd
    · rename_i ys ez
      cases hd
      refine .inr (.inl ⟨G, ρ, z.1, z.2, E, q, fun v G' H' P => ?_⟩)
      have rp := P.rep
      rw [ez] at rp
      cases (show Rep X.K fa G' v _ from rp) with
      | @tup a vs _ s r => exact ⟨a, rfl, ⟨vs, same_sqT P.env.same (.of s)⟩, k _ _ _ _ _ ⟨P.env, P.aft⟩ walks_t ⟨.of s, r⟩ fun b hb => by simp at hb⟩
    · rename_i y ez
      cases hd
      refine .inr (.inr ⟨G, ρ, z.1, z.2, E, q, fun v G' H' P => ?_⟩)
      have rp := P.rep
      rw [ez] at rp
      exact ⟨y, Rep.str_inv rp, k _ _ _ _ _ ⟨P.env, P.aft⟩ walks_s trivial fun b hb => by simp at hb⟩
    · rename_i ys ez
      cases hd
      refine .inl ⟨G, ρ, z.1, z.2, E, q, fun v G' H' P => ?_⟩
      have rp := P.rep
      rw [ez] at rp
      cases (show Rep X.K fa G' v _ from rp) with
      | @lkl a vs _ s r => exact ⟨a, rfl, ⟨vs, P.env.same.seq s⟩, k _ _ _ _ _ ⟨P.env, P.aft⟩ walks_l ⟨s, r⟩ fun b hb => by simp at hb⟩
    · cases q1 : z.1.lview z.2 with
      | none => simp [q1] at hd
      | some ys =>
        simp [q1] at hd
        obtain ⟨rfl, rfl, rfl⟩ := hd
        refine .inl ⟨G, ρ, z.1, z.2, E, q, fun v G' H' P => ?_⟩
        obtain ⟨a, vs, bs, Kp, rfl, kp, sq, hk, stb, hb⟩ := stays P.ops1 q1
        refine ⟨a, rfl, ⟨vs, sq⟩, k _ bs Kp _ _ ⟨P.env, P.aft⟩ ⟨fun i G H x kq s e => ?_, fun i G H kq s hi => ?_, stb⟩ kp hb⟩
        · obtain ⟨h1, h2⟩ := hk G H kq s
          obtain ⟨v, f1, f2⟩ := h2.get e
          refine ⟨⟨vs, v, h1, f1⟩, fun w H' hy => ?_⟩
          obtain ⟨rfl, f⟩ := hy
          have : w = v := Option.some.inj ((f vs h1).symm.trans f1)
          subst this
          exact ⟨G, Aft.same, s, f2⟩
        · obtain ⟨h1, h2⟩ := hk G H kq s
          exact ⟨vs, h1, by rw [h2.length]; exact hi⟩
/-- range -/
def big : Int := 4611686018427387904
def inBig (i : Int) : Bool := decide (-big ≤ i) && decide (i < big)
theorem inBig_of {i : Int} (h : inBig i = true) : -(2 ^ 62) ≤ i ∧ i < 2 ^ 62 := by
  simp only [inBig, Bool.and_eq_true, decide_eq_true_eq] at h
  exact ⟨h.1, h.2⟩
def iRange1 (d : DenA) : DenI := fun ρ => (d ρ).bind fun p => match p.1 with
  | [.int j] => if inBig j then some (rangeU 0 j.toNat, none, p.2) else none
  | _ => none
def iRange2 (d : DenA) : DenI := fun ρ => (d ρ).bind fun p => match p.1 with
  | [.int i, .int j] => if inBig i && inBig j then some (rangeU i (j - i).toNat, none, p.2) else none
  | _ => none
theorem SI.range1 {a : Expr} {d : DenA} {p : Pos} (hg : Gl X "range") (hm : X.mg "range" = none) (ha : SA X fa [a] d) (hs : starEach [a] X.env = [(false, eval a X.env)]) : SI X fa tg (.Call (.Name "range" p) [a] [] pos) (iRange1 d) := by
  obtain ⟨t, pa, r⟩ := ha
  refine ⟨_, pi_range1 hg hm pa hs, fun σ G H ρ xs ho ρ' R E hd k => ?_⟩
  cases q : d ρ with
  | none => simp [iRange1, q] at hd
  | some z =>
    simp only [iRange1, q, Option.bind_some] at hd
    split at hd
    · rename_i j ez
      split at hd
      · rename_i hb
        cases hd
        refine r σ G H ρ z.1 z.2 _ E q fun vs G' H' A rr => ?_
        rw [ez] at rr
        have hv : vs = [V.int j] := RepAll.ints (ns := [j]) rr
        have hb := inBig_of hb
        exact ⟨j, hv, hb.1, hb.2, k _ _ _ _ _ A walks_u trivial fun b hb => by simp at hb⟩
      · cases hd
    · cases hd
theorem SI.range2 {a b : Expr} {d : DenA} {p : Pos} (hg : Gl X "range") (hm : X.mg "range" = none) (ha : SA X fa [a, b] d) (hs : starEach [a, b] X.env = [(false, eval a X.env), (false, eval b X.env)]) (hs2 : starEach [b] X.env = [(false, eval b X.env)]) :
    SI X fa tg (.Call (.Name "range" p) [a, b] [] pos) (iRange2 d) := by
  obtain ⟨t, pa, r⟩ := ha
  refine ⟨_, pi_range2 hg hm pa hs hs2, fun σ G H ρ xs ho ρ' R E hd k => ?_⟩
  cases q : d ρ with
  | none => simp [iRange2, q] at hd
  | some z =>
    simp only [iRange2, q, Option.bind_some] at hd
    split at hd
    · rename_i i j ez
      split at hd
      · rename_i hb
        cases hd
        refine r σ G H ρ z.1 z.2 _ E q fun vs G' H' A rr => ?_
        rw [ez] at rr
        have hv : vs = [V.int i, V.int j] := RepAll.ints (ns := [i, j]) rr
        simp only [Bool.and_eq_true] at hb
        have h1 := inBig_of hb.1
        have h2 := inBig_of hb.2
        exact ⟨i, j, hv, ⟨h1.1, h1.2, h2.1, h2.2⟩, k _ _ _ _ _ A walks_u trivial fun b hb => by simp at hb⟩
      · cases hd
    · cases hd
/-- enumerate of a list -/
def iEnumT (d : Den) : DenI := fun ρ => (d ρ).bind fun p => (p.1.lview p.2).map fun xs => (enumT xs, p.1.hid p.2, p.2)
theorem SI.enum {elts : List Expr} {kk : Nat} {p tpos : Pos} (hg : Gl X "enumerate") (hm : X.mg "enumerate" = none) (h : SE X fa e d) (hs : starEach [e] X.env = [(false, eval e X.env)]) (hs' : starEach (e :: []) X.env = (false, eval e X.env) :: starEach [] X.env) :
    SI X fa (.Tuple elts kk tpos) (.Call (.Name "enumerate" p) [e] [] pos) (iEnumT d) := by
  refine ⟨_, pi_enum hg hm (pa_cons h.pe pa_nil hs') hs, fun σ G H ρ xs ho ρ' R E hd k => ?_⟩
  cases q : d ρ with
  | none => simp [iEnumT, q] at hd
  | some z =>
    cases q1 : z.1.lview z.2 with
    | none => simp [iEnumT, q, q1] at hd
    | some ys =>
      simp [iEnumT, q, q1] at hd
      obtain ⟨rfl, rfl, rfl⟩ := hd
      refine ⟨G, ρ, z.1, z.2, E, q, fun v G' H' P => ?_⟩
      obtain ⟨a, vs, bs, Kp, rfl, kp, sq, hk, stb, hb⟩ := stays P.ops1 q1
      exact ⟨a, vs, rfl, sq, k _ bs Kp _ _ ⟨P.env, P.aft⟩ (walks_en hk stb) kp hb⟩
/-- zip of two lists, of two tuples -/
def iZipT (d1 d2 : Den) : DenI := fun ρ => (d1 ρ).bind fun p => (d2 p.2).bind fun q => match p.1, q.1 with
  | .t (.tup xs), .t (.tup ys) => some (zipT xs ys, none, q.2)
  | l, .ref _ => none
  | l, m => (l.lview q.2).bind fun xs => (m.lview q.2).map fun ys => (zipT xs ys, l.hid q.2, q.2)
theorem SI.zip {elts : List Expr} {kk : Nat} {p tpos : Pos} (hg : Gl X "zip") (hm : X.mg "zip" = none) (h1 : SE X fa e d1) (h2 : SE X fa e2 d2) (hs : starEach [e, e2] X.env = (false, eval e X.env) :: starEach [e2] X.env) (hpl : (backTo pos (starEach [e2] X.env)).any (·.1) = false)
    (hs2 : starEach [e2] X.env = (false, eval e2 X.env) :: starEach [] X.env) : SI X fa (.Tuple elts kk tpos) (.Call (.Name "zip" p) [e, e2] [] pos) (iZipT d1 d2) := by
  refine ⟨_, RZ.pi_zipA hg hm (pa_cons h1.pe (pa_cons h2.pe pa_nil hs2) hs) hs hpl, fun σ G H ρ xs ho ρ' R E hd k => ?_⟩
  cases q : d1 ρ with
  | none => simp [iZipT, q] at hd
  | some z =>
    cases q' : d2 z.2 with
    | none => simp [iZipT, q, q'] at hd
    | some z' =>
      simp only [iZipT, q, q', Option.bind_some] at hd
      refine ⟨G, ρ, z.1, z.2, E, q, fun v G1 H1 P => ⟨G1, z.2, z'.1, z'.2, P.env, q', fun v' G2 H2 P' => ?_⟩⟩
      have O := P.then2 P'
      split at hd
      · rename_i ys ys' e1 e2
        cases hd
        have r1 := O.r1
        have r2 := O.r2
        rw [e1] at r1
        rw [e2] at r2
        cases (show Rep X.K fa G2 v _ from r1) with
        | @tup a vs _ s r =>
          cases (show Rep X.K fa G2 v' _ from r2) with
          | @tup b ws _ s' r' =>
            exact ⟨a, b, vs, ws, rfl, .inr ⟨same_sqT O.env.same (.of s), same_sqT O.env.same (.of s'), k _ _ _ _ _ O.toAt walks_zt ⟨.of s, r, .of s', r'⟩ fun b hb => by simp at hb⟩⟩
      · cases hd
      · rename_i nr nt
        cases q1 : z.1.lview z'.2 with
        | none => simp [q1] at hd
        | some ys =>
          cases q2 : z'.1.lview z'.2 with
          | none => simp [q1, q2] at hd
          | some ys' =>
            simp [q1, q2] at hd
            obtain ⟨rfl, rfl, rfl⟩ := hd
            obtain ⟨a, vs, bs, Kp, rfl, kp, sq, hk, stb, hb⟩ := stays ⟨O.toAt, O.r1, O.n1⟩ q1
            obtain ⟨a', vs', bs', Kp', rfl, kp', sq', hk', stb', hb'⟩ := stays ⟨O.toAt, O.r2, O.n2⟩ q2
            have hid2 : z'.1.hid z'.2 = none := by
              cases hz : z'.1 with
              | ref i => exact absurd hz (nr i)
              | _ => rfl
            refine ⟨a, a', vs, vs', rfl, .inl ⟨sq, sq', k _ (bs ++ bs') (fun G H => Kp G H ∧ Kp' G H) _ _ O.toAt (walks_z (vs := vs) (ws := vs') (fun G H ⟨h1, h2⟩ s => ?_) (fun C C' G H G' H' ⟨h1, h2⟩ a n => ?_)) ⟨kp, kp'⟩ fun b hbb => ?_⟩⟩
            · obtain ⟨f1, f2⟩ := hk G H h1 s
              obtain ⟨f3, f4⟩ := hk' G H h2 s
              exact ⟨f1, f2, f3, f4⟩
            · exact ⟨stb C C' G H G' H' h1 a fun b hb => n b (List.mem_append_left _ hb), stb' C C' G H G' H' h2 a fun b hb => n b (List.mem_append_right _ hb)⟩
            · rcases List.mem_append.mp hbb with h | h
              · exact hb b h
              · obtain ⟨f1, f2⟩ := hb' b h
                rw [hid2] at f2
                refine ⟨f1, fun z => f2 ?_⟩
                cases hz : z'.1 with
                | ref i => exact absurd hz (nr i)
                | _ =>
                  revert z
                  unfold hideO
                  split
                  · exact fun z => z
                  · exact fun z => Cl.hide z
end
end LW
namespace LW
open PySem PySem.Spec PyProof.Rows L2

/-! ### slots wiped and put back -/
def wipeE (ρ : REnv) : List Nat → REnv
  | [] => ρ
  | v :: vs => (wipeE ρ vs).set v .un
theorem wipeE_len (ρ : REnv) : ∀ vs : List Nat, (wipeE ρ vs).length = ρ.length
  | [] => rfl
  | v :: vs => by unfold wipeE; rw [List.length_set, wipeE_len ρ vs]
theorem wipeE_get {ρ : REnv} : ∀ {vs : List Nat} {i : Nat} {l : L}, (wipeE ρ vs)[i]? = some l → (i ∈ vs ∧ l = .un) ∨ (i ∉ vs ∧ ρ[i]? = some l)
  | [], i, l, h => .inr ⟨by simp, h⟩
  | v :: vs, i, l, h => by
    unfold wipeE at h
    rcases set_get h with ⟨rfl, z⟩ | ⟨n, z⟩
    · exact .inl ⟨List.mem_cons_self, z⟩
    · rcases wipeE_get z with ⟨h1, h2⟩ | ⟨h1, h2⟩
      · exact .inl ⟨List.mem_cons_of_mem _ h1, h2⟩
      · refine .inr ⟨fun z => ?_, h2⟩
        rcases List.mem_cons.mp z with e | e
        · exact n e
        · exact h1 e
theorem wipe_out {σ : L2.St} {vs : List Nat} {i : Nat} (h : i ∉ vs) : (wipe σ vs)[i]? = σ[i]? := by rw [wipe_get, if_neg h]
section
variable {K : PySem.W.Frag} {fa : Nat → Addr} {G H G' H' : Hp} {σ σ' : L2.St} {ρ ρ' ρ1 ρ2 : REnv}
theorem EnvOk.wipe (E : EnvOk K fa G H σ ρ) (vs : List Nat) : EnvOk K fa G H (L2.wipe σ vs) (wipeE ρ vs) := by
  refine ⟨E.same, by rw [wipeE_len, wipe_length]; exact E.len, fun i x e => ?_, fun i c e => ?_, fun i j c c' a e1 e2 e3 e4 => ?_⟩
  · rcases wipeE_get e with ⟨_, z⟩ | ⟨h1, h2⟩
    · cases z
    · rw [wipe_out h1]; exact E.t i x h2
  · rcases wipeE_get e with ⟨_, z⟩ | ⟨h1, h2⟩
    · cases z
    · rw [wipe_out h1]; exact E.own i c h2
  · rcases wipeE_get e1 with ⟨_, z⟩ | ⟨h1, h2⟩
    · cases z
    · rcases wipeE_get e2 with ⟨_, z⟩ | ⟨h3, h4⟩
      · cases z
      · rw [wipe_out h1] at e3
        rw [wipe_out h3] at e4
        exact E.inj i j c c' a h2 h4 e3 e4
theorem Cl.wipe {vs : List Nat} {a : Addr} (h : Cl (L2.wipe σ vs) (wipeE ρ vs) a) : Cl σ ρ a ∧ ∃ (i : Nat) (c : OC), i ∉ vs ∧ ρ[i]? = some (.own c) ∧ σ[i]? = some (some (.ref a)) := by
  obtain ⟨i, c, e1, e2⟩ := h
  rcases wipeE_get e1 with ⟨_, z⟩ | ⟨h1, h2⟩
  · cases z
  · rw [wipe_out h1] at e2
    exact ⟨⟨i, c, h2, e2⟩, i, c, h1, h2, e2⟩
end
def restE (ρ1 ρ2 : REnv) : List Nat → REnv
  | [] => ρ2
  | i :: ks => match ρ1[i]? with
    | some l => (restE ρ1 ρ2 ks).set i l
    | none => restE ρ1 ρ2 ks
theorem restE_len (ρ1 ρ2 : REnv) : ∀ ks : List Nat, (restE ρ1 ρ2 ks).length = ρ2.length
  | [] => rfl
  | i :: ks => by
    unfold restE
    split
    · rw [List.length_set, restE_len ρ1 ρ2 ks]
    · exact restE_len ρ1 ρ2 ks
theorem restE_get {ρ1 ρ2 : REnv} (hl : ρ1.length = ρ2.length) : ∀ {ks : List Nat} {i : Nat} {l : L}, (restE ρ1 ρ2 ks)[i]? = some l → (i ∈ ks ∧ ρ1[i]? = some l) ∨ (i ∉ ks ∧ ρ2[i]? = some l)
  | [], i, l, h => .inr ⟨by simp, h⟩
  | k :: ks, i, l, h => by
    unfold restE at h
    split at h
    · rename_i l' e
      rcases set_get h with ⟨rfl, z⟩ | ⟨n, z⟩
      · subst z
        exact .inl ⟨List.mem_cons_self, e⟩
      · rcases restE_get hl z with ⟨h1, h2⟩ | ⟨h1, h2⟩
        · exact .inl ⟨List.mem_cons_of_mem _ h1, h2⟩
        · refine .inr ⟨fun z => ?_, h2⟩
          rcases List.mem_cons.mp z with e | e
          · exact n e
          · exact h1 e
    · rename_i e
      rcases restE_get hl h with ⟨h1, h2⟩ | ⟨h1, h2⟩
      · exact .inl ⟨List.mem_cons_of_mem _ h1, h2⟩
      · refine .inr ⟨fun z => ?_, h2⟩
        rcases List.mem_cons.mp z with e' | e'
        · subst e'
          have h3 : ρ1.length ≤ i := List.getElem?_eq_none_iff.mp e
          have h4 : i < ρ2.length := (List.getElem?_eq_some_iff.mp h2).1
          omega
        · exact h1 e'

/-! ### [elt for target in iter if test] -/
def compL (vs : List Nat) (g : DenG) (dt : DenT) (de : Den) : List T → REnv → Option (List T × REnv)
  | [], ρ => some ([], ρ)
  | x :: xs, ρ => (g x ρ).bind fun ρa => (dt ρa).bind fun p =>
    if p.1 then (de p.2).bind fun q => q.1.tree.bind fun y => (compL vs g dt de xs (wipeE q.2 vs)).map fun r => (y :: r.1, r.2)
    else compL vs g dt de xs (wipeE p.2 vs)
def compD (src : DenI) (vs : List Nat) (g : DenG) (dt : DenT) (de : Den) : Den := fun ρ => (src ρ).bind fun s =>
  (compL vs g dt de s.1 (wipeE (hideO s.2.1 s.2.2) vs)).bind fun r => if r.1.length ≤ line then some (.own (.lst r.1), restE s.2.2 r.2 (s.2.1.toList ++ vs)) else none
def STs (X : Cx) (fa : Nat → Addr) (ifs : List Expr) (dt : DenT) : Prop := PTs X ifs (tDT X.K fa dt)
def dYes : DenT := fun ρ => some (true, ρ)
section
variable {X : Cx} {fa : Nat → Addr}
theorem STs.nil : STs X fa [] dYes := ⟨fun pins s σ H Q I ⟨G, ρ, b, ρ', E, hd, k⟩ => pts_nil.run pins s σ H Q I (by cases hd; exact k G H (At.start E))⟩
theorem STs.one {c : Expr} {dt : DenT} (h : ST X fa c dt) : STs X fa [c] dt := pts_one h.pt
/-- an object of one's own, outside of all slots, is changed -/
theorem At.mut {K : PySem.W.Frag} {C0 : Addr → Prop} {G0 H0 G H : Hp} {σ : L2.St} {ρ : REnv} (A : At K fa C0 G0 H0 G H σ ρ) {p : Addr} {o o' : HO} (h : H p = some o) (g : G p = none) (n : ¬ Cl σ ρ p) (nw : H0 p = none) : At K fa C0 G0 H0 G (upd H p o') σ ρ := by
  refine ⟨⟨fun b u e => ?_, A.env.len, A.env.t, fun i c e => ?_, A.env.inj⟩, ⟨A.aft.gg, fun b u e nc => ?_, A.aft.gn, fun b e => ?_, A.aft.cs⟩⟩
  · rw [upd_ne (ne_of_none e g)]; exact A.env.same b u e
  · obtain ⟨q, u, e1, e2, e3, e4⟩ := A.env.own i c e
    exact ⟨q, u, e1, e2, by rw [upd_ne (show q ≠ p from fun z => n (z ▸ ⟨i, c, e, e1⟩))]; exact e3, e4⟩
  · rw [upd_ne (ne_of_none e nw)]; exact A.aft.keep b u e nc
  · by_cases hb : b = p
    · subst hb; rw [upd_same] at e; cases e
    · rw [upd_ne hb] at e; exact A.aft.there b e
theorem mut_aft {G H : Hp} {p : Addr} {o o' : HO} (h : H p = some o) : Aft (fun a => a = p) (fun a => a = p) G H G (upd H p o') :=
  ⟨Same.refl _, fun a u e n => by rw [upd_ne n]; exact e, fun _ _ _ _ g => g, fun a e => by
    by_cases hb : a = p
    · subst hb; rw [upd_same] at e; cases e
    · rw [upd_ne hb] at e; exact e, fun _ c => .inl c⟩
theorem SE.comp {elt tg iter : Expr} {ifs : List Expr} {scope : Scope} {own : List (Str × Nat)} {pos : Pos} {src : DenI} {as : List Nat} {g : DenG} {dt : DenT} {de : Den} (hc : X.calm = true) (hN : X.N.Nodup) (hi : SI X fa tg iter src)
    (ok : BlkOk X.N X.env.scope scope own) (has : ∀ i ∈ as, i ∈ own.map (·.2))
    (hg : ∀ (s : Shared) (H : Hp) (C : Addr) (cl : List (Str × Addr)) (fp : List Addr), SG (X.blk s H scope (compEnvC scope cl C X.env) fp) fa tg as g)
    (ht : ∀ (s : Shared) (H : Hp) (C : Addr) (cl : List (Str × Addr)) (fp : List Addr), STs (X.blk s H scope (compEnvC scope cl C X.env) fp) fa ifs dt)
    (he : ∀ (s : Shared) (H : Hp) (C : Addr) (cl : List (Str × Addr)) (fp : List Addr), SE (X.blk s H scope (compEnvC scope cl C X.env) fp) fa elt de) (hs : ∀ x, foldedSetIterable iter X.env x = pure x) :
    PE X (.ListComp elt [⟨tg, iter, ifs, 0⟩] scope pos) (tD X.K fa (compD src (own.map (·.2)) g dt de)) ∧
    ∃ wi, PI X tg iter wi ∧ ∀ (σ : L2.St) (H : Hp) (Q : VK), tD X.K fa (compD src (own.map (·.2)) g dt de) σ H Q → tLc wi (tDG X.K fa as g) (tDT X.K fa dt) (tD X.K fa de) (own.map (·.2)) σ H Q := by
  obtain ⟨wi, pi, ri⟩ := hi
  have key : ∀ (σ : L2.St) (H : Hp) (Q : VK), tD X.K fa (compD src (own.map (·.2)) g dt de) σ H Q → tLc wi (tDG X.K fa as g) (tDT X.K fa dt) (tD X.K fa de) (own.map (·.2)) σ H Q := by
    rintro σ H Q ⟨G, ρ, l, ρ', E, hd, k⟩
    generalize hvs : own.map (·.2) = vs at *
    cases q0 : src ρ with
    | none => simp [compD, q0] at hd
    | some z =>
      obtain ⟨xs, ho, ρ1⟩ := z
      cases q1 : compL vs g dt de xs (wipeE (hideO ho ρ1) vs) with
      | none => simp [compD, q0, q1] at hd
      | some r =>
        obtain ⟨ys, ρ2⟩ := r
        by_cases hz : ys.length ≤ line
        · simp [compD, q0, q1, hz] at hd
          obtain ⟨rfl, rfl⟩ := hd
          refine ri σ G H ρ xs ho ρ1 _ E q0 fun J bs Kp G1 H1 A1 W kp hb D hD => ?_
          have E0 : EnvOk X.K fa G1 H1 σ (hideO ho ρ1) := by
            cases ho with
            | none => exact A1.env
            | some i => exact A1.env.hide i
          have sub0 : ∀ a, Cl σ (hideO ho ρ1) a → Cl σ ρ1 a := by
            cases ho with
            | none => exact fun a h => h
            | some i => exact fun a h => Cl.hide h
          have Ew := E0.wipe vs
          have c1sub : ∀ a, Cl (wipe σ vs) (wipeE (hideO ho ρ1) vs) a → Cl σ (hideO ho ρ1) a := fun a h => (Cl.wipe h).1
          -- D's own place
          have ncD : ¬ Cl (wipe σ vs) (wipeE (hideO ho ρ1) vs) D := (At.start Ew).noCl hD
          have gD : G1 D = none := E0.same.free hD
          refine ⟨fun i m H' => m = xs.length - i ∧ i ≤ xs.length ∧ ∃ (G' : Hp) (ρi : REnv) (acc : List V) (yd rest : List T),
            At X.K fa (Cl (wipe σ vs) (wipeE (hideO ho ρ1) vs)) G1 H1 G' H' (wipe σ vs) ρi ∧ Kp G' H' ∧ H' D = some (.lst acc) ∧ G' D = none ∧ ¬ Cl (wipe σ vs) ρi D ∧ RepAll X.K fa G' acc yd ∧
            compL vs g dt de (xs.drop i) ρi = some (rest, ρ2) ∧ yd ++ rest = ys, ⟨xs.length, by simp, Nat.zero_le _, G1, wipeE (hideO ho ρ1) vs, [], [], ys, (At.start Ew).alloc hD, ?_, upd_same, gD, ncD, .nil, by simpa using q1, rfl⟩, ?_⟩
          · -- the new list leaves what is walked
            refine W.stb (fun a => a = D) (fun a => a = D) G1 H1 G1 _ kp ⟨Same.refl _, fun a o e n => by rw [upd_ne n]; exact e, fun _ _ _ _ g => g, fun a e => ?_, fun _ c => .inl c⟩ fun b hbb z => ?_
            · by_cases hb : a = D
              · subst hb; exact hD
              · rw [upd_ne hb] at e; exact e
            · exact (hb b hbb).1 (by rw [z]; exact hD)
          · rintro i m Hi ⟨rfl, hle, Gi, ρi, acc, yd, rest, Ai, kpi, hDi, gDi, nDi, ra, hcl, hy⟩
            by_cases hlt : i < xs.length
            · have ex : xs[i]? = some xs[i] := by simp [hlt]
              obtain ⟨go, yl⟩ := W.go i Gi Hi xs[i] kpi Ai.env.same ex
              have hdrop : xs.drop i = xs[i] :: xs.drop (i + 1) := List.drop_eq_getElem_cons hlt
              rw [hdrop] at hcl
              cases qa : g xs[i] ρi with
              | none => simp [compL, qa] at hcl
              | some ρa =>
                cases qb : dt ρa with
                | none => simp [compL, qa, qb] at hcl
                | some pb =>
                  obtain ⟨b, ρb⟩ := pb
                  refine .inr ⟨go, fun H' => ∃ (G' : Hp) (ρi : REnv) (acc : List V) (yd rest : List T),
                    At X.K fa (Cl (wipe σ vs) (wipeE (hideO ho ρ1) vs)) G1 H1 G' H' (wipe σ vs) ρi ∧ Kp G' H' ∧ H' D = some (.lst acc) ∧ G' D = none ∧ ¬ Cl (wipe σ vs) ρi D ∧ RepAll X.K fa G' acc yd ∧
                    compL vs g dt de (xs.drop (i + 1)) ρi = some (rest, ρ2) ∧ yd ++ rest = ys, fun H' h => ⟨xs.length - (i + 1), by omega, rfl, hlt, h⟩, fun v H' hv => ?_⟩
                  obtain ⟨G', a1, sm, rv⟩ := yl v H' hv
                  have a1' : Aft (Cl (wipe σ vs) ρi) (Cl (wipe σ vs) ρi) Gi Hi G' H' := a1.wide fun _ h => h.elim
                  have E1 : EnvOk X.K fa G' H' (wipe σ vs) ρi := Ai.env.carry a1 sm fun _ _ h => h
                  refine ⟨G', ρi, xs[i], ρa, E1, rv, qa, fun σ2 E2 c2 s2 => ?_⟩
                  have hw : wipe σ2 vs = wipe σ vs := (s2.wiped has).trans (Slots.wiped (as := vs) ⟨wipe_length σ vs, fun j h => wipe_out h⟩ fun _ h => h)
                  refine ⟨hw, G', ρa, b, ρb, E2, qb, fun G3 H3 A3 => ?_⟩
                  have a2 : Aft (Cl (wipe σ vs) ρi) (Cl σ2 ρa) G' H' G' H' := ⟨Same.refl _, fun _ _ h _ => h, fun _ _ _ _ h => h, fun _ h => h, fun a h => .inl (c2 a h)⟩
                  have up3 := (a1'.trans a2).trans A3.aft
                  have hD3 : H3 D = some (.lst acc) := up3.keep D _ hDi nDi
                  have gD3 : G3 D = none := up3.gn D _ hDi nDi gDi
                  have nD3 : ¬ Cl σ2 ρb D := up3.ne hDi nDi
                  -- the next turn's slots
                  have nextC : ∀ (ρc : REnv) (a : Addr), Cl (wipe σ vs) (wipeE ρc vs) a → Cl σ2 ρc a := fun ρc a h => by
                    rw [← hw] at h
                    exact (Cl.wipe h).1
                  have nextE : ∀ {G H : Hp} {ρc : REnv}, EnvOk X.K fa G H σ2 ρc → EnvOk X.K fa G H (wipe σ vs) (wipeE ρc vs) := fun {G H ρc} h => by
                    have := h.wipe vs
                    rwa [hw] at this
                  have narrow : ∀ {G' H' : Hp} {ρc : REnv}, Aft (Cl (wipe σ vs) (wipeE (hideO ho ρ1) vs)) (Cl σ2 ρc) G1 H1 G' H' → Aft (Cl (wipe σ vs) (wipeE (hideO ho ρ1) vs)) (Cl (wipe σ vs) (wipeE ρc vs)) G1 H1 G' H' := fun {G' H' ρc} h =>
                    ⟨h.gg, h.keep, h.gn, h.there, fun a z => h.cs a (nextC ρc a z)⟩
                  have bsN : ∀ b ∈ bs, ¬ Cl (wipe σ vs) ρi b := fun b hbb => by
                    obtain ⟨f1, f2⟩ := hb b hbb
                    cases q : H1 b with
                    | none => exact absurd q f1
                    | some o => exact Ai.aft.ne q fun z => f2 (c1sub b z)
                  cases b with
                  | false =>
                    simp [compL, qa, qb] at hcl
                    refine iteF ⟨G3, wipeE ρb vs, acc, yd, rest, ⟨nextE A3.env, narrow (Ai.aft.trans up3)⟩, W.stb _ _ _ _ _ _ kpi up3 bsN, hD3, gD3, fun z => nD3 (nextC _ _ z), ra.mono up3.gg, hcl, hy⟩
                  | true =>
                    simp [compL, qa, qb] at hcl
                    cases qc : de ρb with
                    | none => simp [qc] at hcl
                    | some pc =>
                      obtain ⟨le, ρc⟩ := pc
                      cases qt : le.tree with
                      | none => simp [qc, qt] at hcl
                      | some y =>
                        cases qr : compL vs g dt de (xs.drop (i + 1)) (wipeE ρc vs) with
                        | none => simp [qc, qt, qr] at hcl
                        | some rr =>
                          simp [qc, qt, qr] at hcl
                          obtain ⟨rfl, rfl⟩ := hcl
                          refine iteT ⟨G3, ρb, le, ρc, A3.env, qc, fun v4 G4 H4 P4 => ?_⟩
                          obtain ⟨G5, E5, R5, A5, sm5, _⟩ := toTree P4.env P4.rep P4.new P4.aft qt
                          have up5 := up3.trans A5
                          have hD5 : H4 D = some (.lst acc) := up5.keep D _ hDi nDi
                          have gD5 : G5 D = none := up5.gn D _ hDi nDi gDi
                          have nD5 : ¬ Cl σ2 ρc D := up5.ne hDi nDi
                          have hlen : acc.length < sizeLine := by
                            rw [← line_eq]
                            have h1 := ra.length
                            rw [← hy] at hz
                            simp at hz
                            omega
                          have At5 : At X.K fa (Cl (wipe σ vs) (wipeE (hideO ho ρ1) vs)) G1 H1 G5 H4 (wipe σ vs) (wipeE ρc vs) := ⟨nextE E5, narrow (Ai.aft.trans up5)⟩
                          refine ⟨acc, hD5, hlen, G5, wipeE ρc vs, acc ++ [v4], yd ++ [y], rr.1, At5.mut hD5 gD5 (fun z => nD5 (nextC _ _ z)) hD, ?_, upd_same, gD5, fun z => nD5 (nextC _ _ z), (ra.mono up5.gg).append (.one R5), qr, by simpa using hy⟩
                          refine W.stb _ _ _ _ _ _ (W.stb _ _ _ _ _ _ kpi up5 bsN) (mut_aft hD5) fun b hbb z => ?_
                          exact (hb b hbb).1 (by rw [z]; exact hD)
            · have hi : i = xs.length := by omega
              subst hi
              simp [compL] at hcl
              obtain ⟨rfl, rfl⟩ := hcl
              rw [List.append_nil] at hy
              subst hy
              refine .inl ⟨W.stop _ Gi Hi kpi Ai.env.same (Nat.le_refl _), k _ Gi Hi ?_⟩
              -- back to all slots
              have lenE : ρ1.length = ρi.length := by rw [A1.env.len, Ai.env.len, wipe_length]
              have ownK : ∀ (j : Nat) (c : OC) (a : Addr), j ∈ ho.toList ++ vs → ρ1[j]? = some (.own c) → σ[j]? = some (some (.ref a)) → ¬ Cl (wipe σ vs) (wipeE (hideO ho ρ1) vs) a := fun j c a hj e1 e2 h => by
                obtain ⟨_, j', c', n', f1, f2⟩ := Cl.wipe h
                have f1' : ρ1[j']? = some (.own c') ∧ ho ≠ some j' := by
                  cases ho with
                  | none => exact ⟨f1, by simp⟩
                  | some t =>
                    have f1 : (ρ1.set t .un)[j']? = some (.own c') := f1
                    rcases set_get f1 with ⟨_, z⟩ | ⟨n, z⟩
                    · cases z
                    · exact ⟨z, fun e => n (by cases e; rfl)⟩
                have : j = j' := A1.env.inj j j' c c' a e1 f1'.1 e2 f2
                subst this
                rcases List.mem_append.mp hj with z | z
                · cases ho with
                  | none => simp at z
                  | some t => simp at z; subst z; exact f1'.2 rfl
                · exact n' z
              have someOf : ∀ (j : Nat) (c : OC) (a : Addr), ρ1[j]? = some (.own c) → σ[j]? = some (some (.ref a)) → ∃ o, H1 a = some o := fun j c a e1 e2 => by
                obtain ⟨p, o, f1, f2, f3, f4⟩ := A1.env.own j c e1
                rw [e2] at f1; cases f1
                exact ⟨o, f3⟩
              have csub : ∀ a, Cl σ (restE ρ1 ρi (ho.toList ++ vs)) a → Cl σ ρ1 a ∨ Cl (wipe σ vs) ρi a := fun a ⟨j, c, e1, e2⟩ => by
                rcases restE_get lenE e1 with ⟨h1, h2⟩ | ⟨h1, h2⟩
                · exact .inl ⟨j, c, h2, e2⟩
                · refine .inr ⟨j, c, h2, ?_⟩
                  rw [wipe_out fun z => h1 (List.mem_append_right _ z)]
                  exact e2
              have upA : Aft (Cl σ ρ1) (Cl σ (restE ρ1 ρi (ho.toList ++ vs))) G1 H1 Gi Hi :=
                ⟨Ai.aft.gg, fun a o e n => Ai.aft.keep a o e fun z => n (sub0 a (c1sub a z)), fun a o e n g => Ai.aft.gn a o e (fun z => n (sub0 a (c1sub a z))) g, Ai.aft.there, fun a h => by
                  rcases csub a h with z | z
                  · exact .inl z
                  · rcases Ai.aft.cs a z with y | y
                    · exact .inl (sub0 a (c1sub a y))
                    · exact .inr y⟩
              refine ⟨A1.aft.trans upA, ⟨Ai.env.same, by rw [restE_len, ← lenE]; exact A1.env.len, fun j x e => ?_, fun j c e => ?_, fun j j' c c' a e1 e2 e3 e4 => ?_⟩, ⟨D, .lst acc, rfl, gDi, fun z => ?_, hDi, ra⟩, fun a e => ?_⟩
              · rcases restE_get lenE e with ⟨h1, h2⟩ | ⟨h1, h2⟩
                · obtain ⟨v, f1, f2⟩ := A1.env.t j x h2
                  exact ⟨v, f1, f2.mono Ai.aft.gg⟩
                · obtain ⟨v, f1, f2⟩ := Ai.env.t j x h2
                  rw [wipe_out fun z => h1 (List.mem_append_right _ z)] at f1
                  exact ⟨v, f1, f2⟩
              · rcases restE_get lenE e with ⟨h1, h2⟩ | ⟨h1, h2⟩
                · obtain ⟨a, o, f1, f2, f3, f4⟩ := A1.env.own j c h2
                  have nc := ownK j c a h1 h2 f1
                  exact ⟨a, o, f1, Ai.aft.gn a o f3 nc f2, Ai.aft.keep a o f3 nc, f4.mono Ai.aft.gg⟩
                · obtain ⟨a, o, f1, f2⟩ := Ai.env.own j c h2
                  rw [wipe_out fun z => h1 (List.mem_append_right _ z)] at f1
                  exact ⟨a, o, f1, f2⟩
              · have cross : ∀ (j j' : Nat) (c c' : OC), j ∈ ho.toList ++ vs → ρ1[j]? = some (.own c) → σ[j]? = some (some (.ref a)) → j' ∉ ho.toList ++ vs → ρi[j']? = some (.own c') → σ[j']? = some (some (.ref a)) → False := fun j j' c c' h1 h2 h3 h4 h5 h6 => by
                  have cl : Cl (wipe σ vs) ρi a := ⟨j', c', h5, by rw [wipe_out fun z => h4 (List.mem_append_right _ z)]; exact h6⟩
                  rcases Ai.aft.cs a cl with z | z
                  · exact ownK j c a h1 h2 h3 z
                  · obtain ⟨o, f⟩ := someOf j c a h2 h3
                    rw [z] at f; cases f
                rcases restE_get lenE e1 with ⟨h1, h2⟩ | ⟨h1, h2⟩
                · rcases restE_get lenE e2 with ⟨h3, h4⟩ | ⟨h3, h4⟩
                  · exact A1.env.inj j j' c c' a h2 h4 e3 e4
                  · exact (cross j j' c c' h1 h2 e3 h3 h4 e4).elim
                · rcases restE_get lenE e2 with ⟨h3, h4⟩ | ⟨h3, h4⟩
                  · exact (cross j' j c' c h3 h4 e4 h1 h2 e3).elim
                  · refine Ai.env.inj j j' c c' a h2 h4 ?_ ?_
                    · rw [wipe_out fun z => h1 (List.mem_append_right _ z)]; exact e3
                    · rw [wipe_out fun z => h3 (List.mem_append_right _ z)]; exact e4
              · rcases csub D z with z | z
                · obtain ⟨j, c, f1, f2⟩ := z
                  obtain ⟨o, f⟩ := someOf j c D f1 f2
                  rw [hD] at f; cases f
                · exact nDi z
              · cases e
                exact A1.aft.there D hD
        · simp [compD, q0, q1, hz] at hd
  have pg : ∀ (s : Shared) (H : Hp) (C : Addr) (cl : List (Str × Addr)) (fp : List Addr), PG (X.blk s H scope (compEnvC scope cl C X.env) fp) tg (tDG X.K fa as g) := hg
  have pt : ∀ (s : Shared) (H : Hp) (C : Addr) (cl : List (Str × Addr)) (fp : List Addr), PTs (X.blk s H scope (compEnvC scope cl C X.env) fp) ifs (tDT X.K fa dt) := ht
  have pe : ∀ (s : Shared) (H : Hp) (C : Addr) (cl : List (Str × Addr)) (fp : List Addr), PE (X.blk s H scope (compEnvC scope cl C X.env) fp) elt (tD X.K fa de) := fun s H C cl fp => (he s H C cl fp).pe
  exact ⟨⟨fun pins s σ H Q I h => (pe_lc hc hN pi ok pg pt pe hs).run pins s σ H Q I (key σ H Q h)⟩, wi, pi, key⟩
theorem SE.of {e : Expr} {d : Den} (h : PE X e (tD X.K fa d)) : SE X fa e d := ⟨_, h, SE.rd _ rfl⟩
end
end LW
namespace LW
open PySem PySem.Spec PyProof.Rows L2

/-! ### defs: what they are worth -/
abbrev DenF := List L → Option (L × List L)
/-- the promise of a def of n parameters -/
def spM (K : PySem.W.Frag) (fa : Nat → Addr) (n : Nat) (m : DenF) : Sp := fun vs H Q _ => vs.length = n ∧ ∃ (G : Hp) (ls : List L) (r : L) (ls' : List L),
  EnvOk K fa G H (vs.map some) ls ∧ m ls = some (r, ls') ∧ ∀ v G' H', Post K fa G H (vs.map some) ls r ls' v G' H' → Q v H'
/-- trees in, a result out -/
def allT : List L → Option (List T)
  | [] => some []
  | .t x :: ls => (allT ls).map fun xs => x :: xs
  | _ :: _ => none
/-- what a def may hand back -/
def nor : L → Option L
  | .t x => some (.t x)
  | .own c => some (.own c)
  | _ => none
theorem nor_inv {l r : L} (h : nor l = some r) : r = l ∧ ∀ i, r ≠ .ref i := by
  cases l <;> cases h <;> exact ⟨rfl, fun i z => by cases z⟩
def pureF (f : List T → Option L) : DenF := fun ls => (allT ls).bind fun ts => (f ts).map fun r => (r, ls)
/-- a list that is changed, then trees -/
def feedF (g : List T → List T → Option (L × List T)) : DenF := fun ls => match ls with
  | .own (.lst xs) :: r => (allT r).bind fun ts => (g xs ts).map fun p => (p.1, .own (.lst p.2) :: r)
  | _ => none
theorem allT_map : ∀ ts : List T, allT (ts.map L.t) = some ts
  | [] => rfl
  | t :: ts => by simp [allT, allT_map ts]
theorem allT_inv : ∀ {ls : List L} {ts : List T}, allT ls = some ts → ls = ts.map L.t
  | [], ts, h => by cases h; rfl
  | l :: ls, ts, h => by
    cases l with
    | t x =>
      cases q : allT ls with
      | none => simp [allT, q] at h
      | some xs =>
        simp [allT, q] at h
        subst h
        rw [allT_inv q]
        rfl
    | _ => cases h
/-- a def that is there to be called: the facts that every context with the same module has -/
structure Fn (P : Program) (w : World) (K : PySem.W.Frag) (mg : Str → Option Value) (base : Heap) (fa : Nat → Addr) (k : Nat) (x : Str) (n : Nat) (m : DenF) : Prop where
  ex : ∃ (f : Addr) (fd : FuncData) (ps : List Str), FnOk P w K mg base CX0 k f fd ps (spM K fa n m) ∧ mg x = some (.ref f) ∧ PySem.W.keepIn K (.ref f) = true ∧ Binds K fd ps []
theorem Fn.mono {P : Program} {w : World} {K : PySem.W.Frag} {mg : Str → Option Value} {base : Heap} {fa : Nat → Addr} {j k : Nat} {x : Str} {n : Nat} {m : DenF} (F : Fn P w K mg base fa j x n m) (h : j ≤ k) : Fn P w K mg base fa k x n m := by
  obtain ⟨f, fd, ps, h1, h2, h3, h4⟩ := F.ex
  exact ⟨f, fd, ps, h1.mono h, h2, h3, h4⟩
section
variable {K : PySem.W.Frag} {fa : Nat → Addr} {G H G' H' : Hp} {σ : L2.St} {ρ : REnv}
theorem env_ts {vs : List V} {ts : List T} (s : Same G H) (r : RepAll K fa G vs ts) : EnvOk K fa G H (vs.map some) (ts.map L.t) := by
  refine ⟨s, by rw [List.length_map, List.length_map, r.length], fun i x e => ?_, fun i c e => ?_, fun i j c c' a e => ?_⟩
  · rw [List.getElem?_map] at e
    cases q : ts[i]? with
    | none => rw [q] at e; cases e
    | some y =>
      rw [q] at e
      cases e
      obtain ⟨v, h1, h2⟩ := r.get q
      exact ⟨v, by rw [List.getElem?_map, h1]; rfl, h2⟩
  · rw [List.getElem?_map] at e
    cases q : ts[i]? <;> rw [q] at e <;> cases e
  · rw [List.getElem?_map] at e
    cases q : ts[i]? <;> rw [q] at e <;> cases e
theorem cl_ts {σ : L2.St} {ts : List T} {a : Addr} (h : Cl σ (ts.map L.t) a) : False := by
  obtain ⟨i, c, e, _⟩ := h
  rw [List.getElem?_map] at e
  cases q : ts[i]? <;> rw [q] at e <;> cases e
/-- a list first, then trees -/
theorem env_feed {vs : List V} {ts xs : List T} {a : Addr} {ws : List V} (s : Same G H) (r : RepAll K fa G vs ts) (g : G a = none) (h : H a = some (.lst ws)) (rx : RepAll K fa G ws xs) :
    EnvOk K fa G H ((V.ref a :: vs).map some) (.own (.lst xs) :: ts.map L.t) := by
  have E := env_ts s r
  refine ⟨s, by simp [r.length], fun i x e => ?_, fun i c e => ?_, fun i j c c' b e1 e2 e3 e4 => ?_⟩
  · cases i with
    | zero => cases e
    | succ i => exact E.t i x e
  · cases i with
    | zero => cases e; exact ⟨a, .lst ws, rfl, g, h, rx⟩
    | succ i =>
      obtain ⟨p, o, h1, h2⟩ := E.own i c e
      exact ⟨p, o, h1, h2⟩
  · cases i with
    | zero =>
      cases j with
      | zero => rfl
      | succ j => exact (cl_ts (σ := vs.map some) ⟨j, c', e2, e4⟩).elim
    | succ i => exact (cl_ts (σ := vs.map some) ⟨i, c, e1, e3⟩).elim
end
section
variable {X : Cx} {fa : Nat → Addr} {e : Expr} {es : List Expr} {pos p : Pos} {x : Str} {n k : Nat}
def dCallP (n : Nat) (f : List T → Option L) (da : DenA) : Den := fun ρ => (da ρ).bind fun p => if p.1.length = n then (f p.1).bind fun r => (nor r).map fun r => (r, p.2) else none
theorem new_out {K : PySem.W.Frag} {G G1 H1 G' H' : Hp} {σ σ' : L2.St} {ρ ρ2 : REnv} {C : Addr → Prop} {v : V} {r : L} (E : EnvOk K fa G1 H1 σ ρ) (h : LRep K fa G' H' C σ' v r) (nr : ∀ i, r ≠ .ref i) (nw : NewL H1 v r) (sub : ∀ a, Cl σ ρ2 a → Cl σ ρ a) : LRep K fa G' H' (Cl σ ρ2) σ v r := by
  cases r with
  | un => exact h
  | t y => exact h
  | own c =>
    obtain ⟨pa, o, rfl, gp, nc, hh, ro⟩ := h
    refine ⟨pa, o, rfl, gp, fun hc => ?_, hh, ro⟩
    have hn : H1 pa = none := nw pa rfl
    obtain ⟨j, c', f1, f2⟩ := sub _ hc
    obtain ⟨a', o', u1, u2, u3, u4⟩ := E.own j c' f1
    rw [f2] at u1; cases u1
    rw [hn] at u3; cases u3
  | ref j => exact absurd rfl (nr j)
theorem SE.callP {f : List T → Option L} {da : DenA} (F : Fn X.prog X.w X.K X.mg X.base fa k x n (pureF f)) (hr : Room k X.A) (hg : Gl X x) (ha : SA X fa (e :: es) da)
    (hdb : (x == ("__debug__" : Str)) = false) (he : starEach (e :: es) X.env = (false, eval e X.env) :: starEach es X.env) (hpl : (backTo pos (starEach es X.env)).any (·.1) = false) :
    SE X fa (.Call (.Name x p) (e :: es) [] pos) (dCallP n f da) := by
  obtain ⟨fA, fd, ps, h1, h2, h3, h4⟩ := F.ex
  obtain ⟨t, pt, rt⟩ := ha
  refine ⟨_, pe_call h1 hr hg h2 h3 h4 .nil pass0 pt hdb he hpl, fun σ G H ρ l ρ' Q E hd kk => ?_⟩
  cases q : da ρ with
  | none => simp [dCallP, q] at hd
  | some z =>
    by_cases hz : z.1.length = n
    · cases q1 : f z.1 with
      | none => simp [dCallP, q, q1, hz] at hd
      | some r =>
        cases q2 : nor r with
        | none => simp [dCallP, q, q1, hz, q2] at hd
        | some r2 =>
          simp [dCallP, q, q1, hz, q2] at hd
          obtain ⟨rfl, rfl⟩ := hd
          obtain ⟨rfl, nr⟩ := nor_inv q2
          refine rt σ G H ρ z.1 z.2 _ E q fun vs G1 H1 A1 R1 => ?_
          show spM X.K fa n (pureF f) (vs ++ []) H1 Q E0
          rw [List.append_nil]
          refine ⟨by rw [R1.length]; exact hz, G1, z.1.map L.t, r2, z.1.map L.t, env_ts A1.env.same R1, by simp [pureF, allT_map, q1], fun v G' H' P => ?_⟩
          have a2 : Aft (Cl σ z.2) (Cl σ z.2) G1 H1 G' H' := P.aft.wide fun b hb => (cl_ts hb).elim
          have E2 : EnvOk X.K fa G' H' σ z.2 := A1.env.carry P.aft P.env.same fun b _ hb => cl_ts hb
          exact kk v G' H' ⟨A1.aft.trans a2, E2, new_out (G := G) A1.env P.rep nr P.new fun _ h => h, P.new.aft A1.aft⟩
    · simp [dCallP, q, hz] at hd
/-- .. with a list at a slot that is changed -/
def isOwnL (ρ : REnv) (i : Nat) : Bool := match ρ[i]? with
  | some (.own (.lst _)) => true
  | _ => false
theorem isOwnL_inv {ρ : REnv} {i : Nat} (h : isOwnL ρ i = true) : ∃ xs, ρ[i]? = some (.own (.lst xs)) := by
  unfold isOwnL at h
  split at h
  · rename_i xs e
    exact ⟨xs, e⟩
  · cases h
def dCallF (n i : Nat) (g : List T → List T → Option (L × List T)) (da : DenA) : Den := fun ρ => if isOwnL ρ i then (da ρ).bind fun p => if p.1.length + 1 = n then (match p.2[i]? with
  | some (.own (.lst xs)) => (g xs p.1).bind fun r => (nor r.1).map fun l => (l, p.2.set i (.own (.lst r.2)))
  | _ => none) else none else none
theorem SE.callF {g : List T → List T → Option (L × List T)} {da : DenA} {i : Nat} {y : Str} {py : Pos} (F : Fn X.prog X.w X.K X.mg X.base fa k x n (feedF g)) (hr : Room k X.A) (hg : Gl X x)
    (hN : X.N[i]? = some y) (hv : Vis X.env.scope y) (hd : (y == ("__debug__" : Str)) = false) (hcd : (y == ("__classdict__" : Str)) = false) (ha : SA X fa es da)
    (hdb : (x == ("__debug__" : Str)) = false) (he : starEach (.Name y py :: es) X.env = (false, eval (.Name y py) X.env) :: starEach es X.env) (hpl : (backTo pos (starEach es X.env)).any (·.1) = false) :
    SE X fa (.Call (.Name x p) (.Name y py :: es) [] pos) (dCallF n i g da) := by
  obtain ⟨fA, fd, ps, h1, h2, h3, h4⟩ := F.ex
  obtain ⟨t, pt, rt⟩ := ha
  refine ⟨_, pe_call h1 hr hg h2 h3 h4 .nil pass0 (pa_cons (pe_var hN hv hd hcd) pt he) hdb he hpl, fun σ G H ρ l ρ' Q E hdd kk => ?_⟩
  by_cases ho : isOwnL ρ i = true
  · cases q : da ρ with
    | none => simp [dCallF, q, ho] at hdd
    | some z =>
      by_cases hz : z.1.length + 1 = n
      · cases q2 : z.2[i]? with
        | none => simp [dCallF, q, q2, ho, hz] at hdd
        | some m =>
          cases m with
          | own c =>
            cases c with
            | lst xs =>
              cases q1 : g xs z.1 with
              | none => simp [dCallF, q, q2, q1, ho, hz] at hdd
              | some r =>
                obtain ⟨r, xs'⟩ := r
                cases q3 : nor r with
                | none => simp [dCallF, q, q2, q1, ho, hz, q3] at hdd
                | some r2 =>
                  simp [dCallF, q, q2, q1, ho, hz, q3] at hdd
                  obtain ⟨rfl, rfl⟩ := hdd
                  obtain ⟨rfl, nr⟩ := nor_inv q3
                  obtain ⟨c', hc'⟩ := isOwnL_inv ho
                  obtain ⟨a0, o0, e0, _⟩ := E.own i _ hc'
                  refine ⟨_, e0, ?_⟩
                  refine rt σ G H ρ z.1 z.2 _ E q fun vs G1 H1 A1 R1 => ?_
                  show spM X.K fa n (feedF g) ((V.ref a0 :: vs) ++ []) H1 Q E0
                  rw [List.append_nil]
                  obtain ⟨a1, o1, e1, g1, hh1, ro1⟩ := A1.env.own i _ q2
                  rw [e0] at e1
                  cases e1
                  cases o1 with
                  | lst ws =>
                    have EF := env_feed (xs := xs) A1.env.same R1 g1 hh1 ro1
                    refine ⟨by rw [List.length_cons, R1.length]; exact hz, G1, .own (.lst xs) :: z.1.map L.t, r2, .own (.lst xs') :: z.1.map L.t, EF, by simp [feedF, allT_map, q1], fun v G' H' P => ?_⟩
                    have cF : ∀ b, Cl ((V.ref a0 :: vs).map some) (.own (.lst xs) :: z.1.map L.t) b → b = a0 := fun b hb => by
                      obtain ⟨j, c, f1, f2⟩ := hb
                      cases j with
                      | zero => cases f2; rfl
                      | succ j => exact (cl_ts (σ := vs.map some) ⟨j, c, f1, f2⟩).elim
                    have hcl : Cl σ z.2 a0 := ⟨i, _, q2, e0⟩
                    have a2 : Aft (Cl σ z.2) (Cl σ z.2) G1 H1 G' H' := P.aft.wide fun b hb => by rw [cF b hb]; exact hcl
                    obtain ⟨a3, o3, e3, g3, hh3, ro3⟩ := P.env.own 0 (.lst xs') rfl
                    have e3' : some (some (V.ref a0)) = some (some (V.ref a3)) := e3
                    cases e3'
                    have hi : i < σ.length := (List.getElem?_eq_some_iff.mp e0).1
                    have hiρ : i < z.2.length := (List.getElem?_eq_some_iff.mp q2).1
                    -- the caller's slots behind the call
                    have clE : ∀ b, Cl σ (z.2.set i (.own (.lst xs'))) b → Cl σ z.2 b := fun b ⟨j, c, f1, f2⟩ => by
                      rcases set_get f1 with ⟨rfl, _⟩ | ⟨_, f⟩
                      · rw [e0] at f2; cases f2; exact hcl
                      · exact ⟨j, c, f, f2⟩
                    have E2 : EnvOk X.K fa G' H' σ (z.2.set i (.own (.lst xs'))) := by
                      refine ⟨P.env.same, by simp [A1.env.len], fun j y e => ?_, fun j c e => ?_, fun j j' c c' b f1 f2 f3 f4 => ?_⟩
                      · rcases set_get e with ⟨_, z⟩ | ⟨_, f⟩
                        · cases z
                        · obtain ⟨v, u1, u2⟩ := A1.env.t j y f
                          exact ⟨v, u1, u2.mono P.aft.gg⟩
                      · rcases set_get e with ⟨rfl, z⟩ | ⟨nj, f⟩
                        · cases z
                          exact ⟨a0, o3, e0, g3, hh3, ro3⟩
                        · obtain ⟨b, o, u1, u2, u3, u4⟩ := A1.env.own j c f
                          have nb : ¬ Cl ((V.ref a0 :: vs).map some) (.own (.lst xs) :: z.1.map L.t) b := fun hb => by
                            rw [cF b hb] at u1
                            exact nj (A1.env.inj j i _ _ a0 f q2 u1 e0)
                          exact ⟨b, o, u1, P.aft.gn b o u3 nb u2, P.aft.keep b o u3 nb, u4.mono P.aft.gg⟩
                      · have key : ∀ (j : Nat) (c : OC), (z.2.set i (L.own (.lst xs')))[j]? = some (.own c) → ∃ c', z.2[j]? = some (.own c') := fun j c f => by
                          rcases set_get f with ⟨rfl, _⟩ | ⟨_, f⟩
                          · exact ⟨_, q2⟩
                          · exact ⟨c, f⟩
                        obtain ⟨d1, k1⟩ := key j c f1
                        obtain ⟨d2, k2⟩ := key j' c' f2
                        exact A1.env.inj j j' d1 d2 b k1 k2 f3 f4
                    exact kk v G' H' ⟨(A1.aft.trans a2).trans ⟨Same.refl _, fun _ _ h _ => h, fun _ _ _ _ h => h, fun _ h => h, fun b hb => .inl (clE b hb)⟩, E2, new_out (G := G) A1.env P.rep nr P.new clE, P.new.aft A1.aft⟩
                  | _ => exact (show False from ro1).elim
            | _ => simp [dCallF, q, q2, ho, hz] at hdd
          | _ => simp [dCallF, q, q2, ho, hz] at hdd
      · simp [dCallF, q, ho, hz] at hdd
  · simp [dCallF, ho] at hdd
/-- an expression over the slots' own lists as they stand: nothing of them may be in what comes out -/
def frzL : L → L
  | .own (.lst xs) => .t (.lst xs)
  | .own _ => .un
  | l => l
def frzE (ρ : REnv) : REnv := ρ.map frzL
mutual
def T.noL : T → Bool
  | .lst _ => false
  | .lkl _ => false
  | .dic _ _ _ => false
  | .ins _ _ => false
  | .tup xs => T.noLs xs
  | _ => true
def T.noLs : List T → Bool
  | [] => true
  | x :: xs => T.noL x && T.noLs xs
end
def L.noL : L → Bool
  | .t x => x.noL
  | .own (.lst xs) => T.noLs xs
  | _ => false
def dBor (d : Den) : Den := fun ρ => (d (frzE ρ)).bind fun p => if p.1.noL then some (p.1, ρ) else none
mutual
theorem Rep.less {K : PySem.W.Frag} {G G' H : Hp} {C : Addr → Prop} (s : Same G' H) (hC : ∀ a, C a → ∃ vs, H a = some (.lst vs)) (hG : ∀ a o, G' a = some o → ¬ C a → G a = some o) : ∀ {x : T} {v : V}, x.noL = true → Rep K fa G' v x → Rep K fa G v x
  | .non, _, _, h => by cases h; exact .non
  | .bl b, _, _, h => by cases h; exact .bl b
  | .int i, _, _, h => by cases h; exact .int i
  | .str x, _, _, h => by cases h; exact .str x
  | .lst _, _, n, _ => by simp [T.noL] at n
  | .lkl _, _, n, _ => by simp [T.noL] at n
  | .dic _ _ _, _, n, _ => by simp [T.noL] at n
  | .ins _ _, _, n, _ => by simp [T.noL] at n
  | .fn k, _, _, h => by cases h; exact .fn k
  | .tup xs, _, n, h => by
    cases h with
    | tup e r =>
      refine .tup ?_ (RepAll.less s hC hG (by simpa only [T.noL] using n) r)
      have key : ∀ (a : Addr) (o : HO), G' a = some o → (∀ vs, o ≠ .lst vs) → G a = some o := fun a o e ne => hG a o e fun c => by
        obtain ⟨vs, hv⟩ := hC a c
        rw [s a o e] at hv
        cases hv
        exact ne vs rfl
      exact key _ _ e fun vs z => by cases z
theorem RepAll.less {K : PySem.W.Frag} {G G' H : Hp} {C : Addr → Prop} (s : Same G' H) (hC : ∀ a, C a → ∃ vs, H a = some (.lst vs)) (hG : ∀ a o, G' a = some o → ¬ C a → G a = some o) : ∀ {xs : List T} {vs : List V}, T.noLs xs = true → RepAll K fa G' vs xs → RepAll K fa G vs xs
  | [], _, _, h => by cases h; exact .nil
  | x :: xs, _, n, h => by
    simp only [T.noLs, Bool.and_eq_true] at n
    cases h with
    | cons a b => exact .cons (Rep.less s hC hG n.1 a) (RepAll.less s hC hG n.2 b)
end
open Classical in
theorem bor_read {d : Den} {t : TE} (rt : Rd1 X fa t d) : Rd1 X fa t (dBor d) := by
  intro σ G H ρ l ρ' Q E hd kk
  cases q : d (frzE ρ) with
  | none => simp [dBor, q] at hd
  | some z =>
    by_cases hn : z.1.noL = true
    · simp [dBor, q, hn] at hd
      obtain ⟨rfl, rfl⟩ := hd
      -- the frozen part with the slots' own lists
      let C : Addr → Prop := fun a => ∃ (i : Nat) (xs : List T), ρ[i]? = some (.own (.lst xs)) ∧ σ[i]? = some (some (.ref a))
      have hCl : ∀ a, C a → Cl σ ρ a := fun a ⟨i, xs, e1, e2⟩ => ⟨i, _, e1, e2⟩
      let G1 : Hp := fun a => if C a then H a else G a
      have gC : ∀ a, C a → G1 a = H a := fun a h => if_pos h
      have gN : ∀ a, ¬ C a → G1 a = G a := fun a h => if_neg h
      have cG : ∀ a, Cl σ ρ a → G a = none ∧ ∃ o, H a = some o := fun a ⟨i, c, e1, e2⟩ => by
        obtain ⟨p, o, f1, f2, f3, f4⟩ := E.own i c e1
        rw [e2] at f1; cases f1
        exact ⟨f2, o, f3⟩
      have sm : Same G G1 := fun a o e => by
        by_cases hc : C a
        · rw [(cG a (hCl a hc)).1] at e; cases e
        · rw [gN a hc]; exact e
      have fz : ∀ (i : Nat) (l : L), (frzE ρ)[i]? = some l → ∃ l0, ρ[i]? = some l0 ∧ l = frzL l0 := fun i l e => by
        unfold frzE at e
        rw [List.getElem?_map] at e
        cases q : ρ[i]? with
        | none => rw [q] at e; cases e
        | some l0 => rw [q] at e; cases e; exact ⟨l0, rfl, rfl⟩
      have noOwn : ∀ (i : Nat) (c : OC), (frzE ρ)[i]? = some (.own c) → False := fun i c e => by
        obtain ⟨l0, h1, h2⟩ := fz i _ e
        cases l0 with
        | own c0 => cases c0 <;> cases h2
        | _ => cases h2
      have E1 : EnvOk X.K fa G1 H σ (frzE ρ) := by
        refine ⟨fun a o e => ?_, by simp [frzE, E.len], fun i x e => ?_, fun i c e => ?_, fun i j c c' a e1 e2 e3 e4 => ?_⟩
        · by_cases hc : C a
          · rw [gC a hc] at e; exact e
          · rw [gN a hc] at e; exact E.same a o e
        · obtain ⟨l0, h1, h2⟩ := fz i _ e
          cases l0 with
          | t y =>
            cases h2
            obtain ⟨v, f1, f2⟩ := E.t i _ h1
            exact ⟨v, f1, f2.mono sm⟩
          | own c =>
            cases c with
            | lst xs =>
              cases h2
              obtain ⟨p, o, f1, f2, f3, f4⟩ := E.own i _ h1
              cases o with
              | lst vs =>
                exact ⟨_, f1, .lst (by rw [gC p ⟨i, xs, h1, f1⟩]; exact f3) (RepAll.mono sm f4)⟩
              | _ => exact (show False from f4).elim
            | dK _ => cases h2
            | dT _ => cases h2
          | _ => cases h2
        · exact (noOwn i c e).elim
        · exact (noOwn i c e1).elim
      have cl0 : ∀ a, ¬ Cl σ (frzE ρ) a := fun a ⟨i, c, e, _⟩ => noOwn i c e
      refine rt σ G1 H (frzE ρ) z.1 z.2 Q E1 q fun v G2 H2 P => ?_
      have hC2 : ∀ a, Cl σ ρ a → ∃ o, H a = some o ∧ H2 a = some o := fun a h => by
        obtain ⟨_, o, e⟩ := cG a h
        exact ⟨o, e, P.aft.keep a o e (cl0 a)⟩
      let G3 : Hp := fun a => if C a then none else G2 a
      have g3C : ∀ a, C a → G3 a = none := fun a h => if_pos h
      have g3N : ∀ a, ¬ C a → G3 a = G2 a := fun a h => if_neg h
      have s13 : Same G G3 := fun a o e => by
        by_cases hc : C a
        · rw [(cG a (hCl a hc)).1] at e; cases e
        · rw [g3N a hc]; exact P.aft.gg a o (sm a o e)
      have g3none : ∀ a o, H a = some o → G a = none → G3 a = none := fun a o e g => by
        by_cases hc : C a
        · exact g3C a hc
        · rw [g3N a hc]
          exact P.aft.gn a o e (cl0 a) (by rw [gN a hc]; exact g)
      have E3 : EnvOk X.K fa G3 H2 σ ρ := by
        refine ⟨fun a o e => ?_, E.len, fun i x e => ?_, fun i c e => ?_, E.inj⟩
        · by_cases hc : C a
          · rw [g3C a hc] at e; cases e
          · rw [g3N a hc] at e; exact P.env.same a o e
        · obtain ⟨w, f1, f2⟩ := E.t i x e
          exact ⟨w, f1, f2.mono s13⟩
        · obtain ⟨p, o, f1, f2, f3, f4⟩ := E.own i c e
          exact ⟨p, o, f1, g3none p o f3 f2, P.aft.keep p o f3 (cl0 p), f4.mono s13⟩
      have hCl2 : ∀ a, C a → ∃ vs, H2 a = some (.lst vs) := fun a ⟨i, xs, e1, e2⟩ => by
        obtain ⟨p, o, f1, f2, f3, f4⟩ := E.own i _ e1
        rw [e2] at f1; cases f1
        cases o with
        | lst vs => exact ⟨vs, P.aft.keep _ _ f3 (cl0 _)⟩
        | _ => exact (show False from f4).elim
      have hG3 : ∀ a o, G2 a = some o → ¬ C a → G3 a = some o := fun a o e hc => by rw [g3N a hc]; exact e
      refine kk v G3 H2 ⟨⟨s13, fun a o e nc => P.aft.keep a o e (cl0 a), fun a o e nc g => g3none a o e g, P.aft.there, fun a h => .inl h⟩, E3, ?_, P.new⟩
      have rp := P.rep
      have nw := P.new
      cases hl : z.1 with
      | un => rw [hl] at rp; exact rp
      | t y =>
        rw [hl] at rp hn
        exact Rep.less P.env.same hCl2 hG3 hn rp
      | own c =>
        rw [hl] at rp hn nw
        cases c with
        | lst xs =>
          obtain ⟨p, o, rfl, gp, nc, hh, ro⟩ := rp
          cases o with
          | lst vs =>
            refine ⟨p, .lst vs, rfl, ?_, fun hc => ?_, hh, RepAll.less P.env.same hCl2 hG3 hn ro⟩
            · by_cases hc : C p
              · exact g3C p hc
              · rw [g3N p hc]; exact gp
            · obtain ⟨o, f1, _⟩ := hC2 p hc
              rw [nw p rfl] at f1; cases f1
          | _ => exact (show False from ro).elim
        | _ => simp [L.noL] at hn
      | ref i => rw [hl] at hn; simp [L.noL] at hn
    · simp [dBor, q, hn] at hd
theorem SE.bor {d : Den} (h : SE X fa e d) : SE X fa e (dBor d) := by
  obtain ⟨t, pt, rt⟩ := h
  exact ⟨t, pt, bor_read rt⟩
end
end LW
namespace LW
open PySem PySem.Spec PyProof.Rows L2

/-! ### statements -/
inductive Fl where
  | nx | brk | cont | ret (l : L)
abbrev DenS := REnv → Option (Fl × REnv)
/-- from a start: the slots, too -/
structure AtS (K : PySem.W.Frag) (fa : Nat → Addr) (C0 : Addr → Prop) (G0 H0 : Hp) (σ0 : L2.St) (as : List Nat) (G H : Hp) (σ : L2.St) (ρ : REnv) : Prop extends At K fa C0 G0 H0 G H σ ρ where
  slots : Slots as σ0 σ
/-- what follows is reached -/
def Cont (K : PySem.W.Frag) (fa : Nat → Addr) (C0 : Addr → Prop) (G0 H0 : Hp) (σ0 : L2.St) (as : List Nat) (D : Ends) (fl : Fl) (ρ' : REnv) : Prop :=
  match fl with
  | .nx => ∀ σ' G' H', AtS K fa C0 G0 H0 σ0 as G' H' σ' ρ' → D.nx σ' H'
  | .brk => ∀ σ' G' H', AtS K fa C0 G0 H0 σ0 as G' H' σ' ρ' → D.bk σ' H'
  | .cont => ∀ σ' G' H', AtS K fa C0 G0 H0 σ0 as G' H' σ' ρ' → D.ct σ' H'
  | .ret l => ∀ v σ' G' H', AtS K fa C0 G0 H0 σ0 as G' H' σ' ρ' → LRep K fa G' H' (Cl σ' ρ') σ' v l → NewL H0 v l → D.rt v H'
def RdS (K : PySem.W.Frag) (fa : Nat → Addr) (as : List Nat) (t : TS) (d : DenS) : Prop := ∀ (σ : L2.St) (G H : Hp) (ρ : REnv) (fl : Fl) (ρ' : REnv) (D : Ends), EnvOk K fa G H σ ρ → d ρ = some (fl, ρ') →
  Cont K fa (Cl σ ρ) G H σ as D fl ρ' → t D σ H
def SS (X : Cx) (fa : Nat → Addr) (st : Stmt) (as : List Nat) (d : DenS) : Prop := ∃ t : TS, PS X st t ∧ RdS X.K fa as t d
def SSs (X : Cx) (fa : Nat → Addr) (sts : List Stmt) (as : List Nat) (d : DenS) : Prop := ∃ t : TS, PSs X sts t ∧ RdS X.K fa as t d
section
variable {K : PySem.W.Frag} {fa : Nat → Addr} {C0 : Addr → Prop} {G0 H0 G1 H1 : Hp} {σ0 σ1 : L2.St} {ρ1 ρ' : REnv} {as bs : List Nat} {D : Ends} {fl : Fl}
theorem AtS.then {G2 H2 : Hp} {σ2 : L2.St} {ρ2 : REnv} (a : AtS K fa C0 G0 H0 σ0 as G1 H1 σ1 ρ1) (b : AtS K fa (Cl σ1 ρ1) G1 H1 σ1 bs G2 H2 σ2 ρ2) : AtS K fa C0 G0 H0 σ0 (as ++ bs) G2 H2 σ2 ρ2 :=
  ⟨⟨b.env, a.aft.trans b.aft⟩, a.slots.trans b.slots⟩
/-- the same end, seen from further on -/
theorem Cont.step (a : AtS K fa C0 G0 H0 σ0 as G1 H1 σ1 ρ1) (c : Cont K fa C0 G0 H0 σ0 (as ++ bs) D fl ρ') : Cont K fa (Cl σ1 ρ1) G1 H1 σ1 bs D fl ρ' := by
  cases fl with
  | nx => exact fun σ' G' H' b => c σ' G' H' (a.then b)
  | brk => exact fun σ' G' H' b => c σ' G' H' (a.then b)
  | cont => exact fun σ' G' H' b => c σ' G' H' (a.then b)
  | ret l => exact fun v σ' G' H' b r n => c v σ' G' H' (a.then b) r (n.aft a.aft)
theorem Cont.mono (h : ∀ i ∈ as, i ∈ bs) (c : Cont K fa C0 G0 H0 σ0 bs D fl ρ') : Cont K fa C0 G0 H0 σ0 as D fl ρ' := by
  cases fl with
  | nx => exact fun σ' G' H' b => c σ' G' H' ⟨b.toAt, b.slots.mono h⟩
  | brk => exact fun σ' G' H' b => c σ' G' H' ⟨b.toAt, b.slots.mono h⟩
  | cont => exact fun σ' G' H' b => c σ' G' H' ⟨b.toAt, b.slots.mono h⟩
  | ret l => exact fun v σ' G' H' b r n => c v σ' G' H' ⟨b.toAt, b.slots.mono h⟩ r n
end
def dSeq (d d' : DenS) : DenS := fun ρ => (d ρ).bind fun p => match p.1 with
  | .nx => d' p.2
  | _ => some p
def dNx : DenS := fun ρ => some (.nx, ρ)
section
variable {X : Cx} {fa : Nat → Addr} {st : Stmt} {sts : List Stmt} {as bs : List Nat} {d d' : DenS} {e : Expr} {de : Den} {pos : Pos}
theorem SSs.nil : SSs X fa [] [] dNx := ⟨_, pss_nil, fun σ G H ρ fl ρ' D E hd k => by cases hd; exact k σ G H ⟨At.start E, Slots.refl⟩⟩
theorem SSs.cons (h : SS X fa st as d) (h' : SSs X fa sts bs d') : SSs X fa (st :: sts) (as ++ bs) (dSeq d d') := by
  obtain ⟨t, p, r⟩ := h
  obtain ⟨t', p', r'⟩ := h'
  refine ⟨_, pss_cons p p', fun σ G H ρ fl ρ' D E hd k => ?_⟩
  cases q : d ρ with
  | none => simp [dSeq, q] at hd
  | some z =>
    obtain ⟨f1, ρ1⟩ := z
    refine r σ G H ρ f1 ρ1 _ E q ?_
    cases f1 with
    | nx =>
      simp [dSeq, q] at hd
      exact fun σ1 G1 H1 A => r' σ1 G1 H1 ρ1 fl ρ' D A.env hd (k.step A)
    | brk =>
      simp [dSeq, q] at hd
      obtain ⟨rfl, rfl⟩ := hd
      exact (Cont.mono (fun i h => List.mem_append_left _ h) k : Cont X.K fa (Cl σ ρ) G H σ as D .brk _)
    | cont =>
      simp [dSeq, q] at hd
      obtain ⟨rfl, rfl⟩ := hd
      exact (Cont.mono (fun i h => List.mem_append_left _ h) k : Cont X.K fa (Cl σ ρ) G H σ as D .cont _)
    | ret l =>
      simp [dSeq, q] at hd
      obtain ⟨rfl, rfl⟩ := hd
      exact (Cont.mono (fun i h => List.mem_append_left _ h) k : Cont X.K fa (Cl σ ρ) G H σ as D (.ret l) _)
theorem SSs.one (h : SS X fa st as d) : SSs X fa [st] as d := by
  obtain ⟨t, p, r⟩ := h
  exact ⟨t, pss_one p, r⟩
theorem SS.pass : SS X fa (.Pass pos) [] dNx := ⟨_, ps_pass, fun σ G H ρ fl ρ' D E hd k => by cases hd; exact k σ G H ⟨At.start E, Slots.refl⟩⟩
def dBrk : DenS := fun ρ => some (.brk, ρ)
def dCnt : DenS := fun ρ => some (.cont, ρ)
theorem SS.brk : SS X fa (.Break pos) [] dBrk := ⟨_, ps_break, fun σ G H ρ fl ρ' D E hd k => by cases hd; exact k σ G H ⟨At.start E, Slots.refl⟩⟩
theorem SS.cnt : SS X fa (.Continue pos) [] dCnt := ⟨_, ps_continue, fun σ G H ρ fl ρ' D E hd k => by cases hd; exact k σ G H ⟨At.start E, Slots.refl⟩⟩
def dRet (d : Den) : DenS := fun ρ => (d ρ).map fun p => (.ret p.1, p.2)
theorem SS.ret (h : SE X fa e de) : SS X fa (.Return (some e) pos) [] (dRet de) := by
  obtain ⟨t, p, r⟩ := h
  refine ⟨_, ps_ret p, fun σ G H ρ fl ρ' D E hd k => ?_⟩
  cases q : de ρ with
  | none => simp [dRet, q] at hd
  | some z =>
    simp [dRet, q] at hd
    obtain ⟨rfl, rfl⟩ := hd
    exact r σ G H ρ z.1 z.2 _ E q fun v G' H' P => k v σ G' H' ⟨⟨P.env, P.aft⟩, Slots.refl⟩ P.rep P.new
def dRetN : DenS := fun ρ => some (.ret (.t .non), ρ)
theorem SS.retN : SS X fa (.Return none pos) [] dRetN := ⟨_, ps_retN, fun σ G H ρ fl ρ' D E hd k => by cases hd; exact k .non σ G H ⟨At.start E, Slots.refl⟩ Rep.non trivial⟩
/-- an expression whose value is dropped -/
def dDrop (d : Den) : DenS := fun ρ => (d ρ).map fun p => (.nx, p.2)
theorem SS.expr (h : SE X fa e de) (hs : swapsWith e none pos.line X.env = pure false) : SS X fa (.Expr e pos) [] (dDrop de) := by
  obtain ⟨t, p, r⟩ := h
  refine ⟨_, ps_expr p hs, fun σ G H ρ fl ρ' D E hd k => ?_⟩
  cases q : de ρ with
  | none => simp [dDrop, q] at hd
  | some z =>
    simp [dDrop, q] at hd
    obtain ⟨rfl, rfl⟩ := hd
    exact r σ G H ρ z.1 z.2 _ E q fun v G' H' P => k σ G' H' ⟨⟨P.env, P.aft⟩, Slots.refl⟩
theorem SS.doc {x : Str} {j : Nat} {pos' : Pos} : SS X fa (.Expr (.Constant (.str x) j pos) pos') [] dNx := ⟨_, ps_doc, fun σ G H ρ fl ρ' D E hd k => by cases hd; exact k σ G H ⟨At.start E, Slots.refl⟩⟩
/-- name = value -/
def stoE (i : Nat) (l : L) (ρ : REnv) : Option REnv := if i < ρ.length then (match l with
  | .t x => some (ρ.set i (.t x))
  | .own c => some (ρ.set i (.own c))
  | _ => none) else none
def dSet (i : Nat) (d : Den) : DenS := fun ρ => (d ρ).bind fun p => (stoE i p.1 p.2).map fun r => (.nx, r)
theorem sto_ok {K : PySem.W.Frag} {G H G' H' : Hp} {σ : L2.St} {ρ ρ1 ρ2 : REnv} {l : L} {v : V} {i : Nat} (P : Post K fa G H σ ρ l ρ1 v G' H') (h : stoE i l ρ1 = some ρ2) : AtS K fa (Cl σ ρ) G H σ [i] G' H' (σ.set i (some v)) ρ2 := by
  unfold stoE at h
  split at h
  · rename_i hi
    split at h
    · rename_i x
      cases h
      exact ⟨⟨P.env.set_t hi P.rep, P.aft.gg, P.aft.keep, P.aft.gn, P.aft.there, fun a z => P.aft.cs a (Cl.set_t (fun c z => by cases z) z)⟩, Slots.set⟩
    · rename_i c
      cases h
      have rp := P.rep
      obtain ⟨p, o, rfl, g, nc, hh, ro⟩ := id rp
      refine ⟨⟨P.env.set_own hi rp, P.aft.gg, P.aft.keep, P.aft.gn, P.aft.there, fun a z => ?_⟩, Slots.set⟩
      rcases Cl.set_own z with z | z
      · rw [z]; exact .inr (P.new p rfl)
      · exact P.aft.cs a z
    · cases h
  · cases h
theorem set_read {K : PySem.W.Frag} {t : TE} {i : Nat} (r : ∀ (σ : L2.St) (G H : Hp) (ρ : REnv) (l : L) (ρ' : REnv) (Q : VK), EnvOk K fa G H σ ρ → de ρ = some (l, ρ') → (∀ v G' H', Post K fa G H σ ρ l ρ' v G' H' → Q v H') → t σ H Q) : RdS K fa [i] (tAsg t (gName i)) (dSet i de) := by
  intro σ G H ρ fl ρ' D E hd k
  cases q : de ρ with
  | none => simp [dSet, q] at hd
  | some z =>
    cases q1 : stoE i z.1 z.2 with
    | none => simp [dSet, q, q1] at hd
    | some ρ2 =>
      simp [dSet, q, q1] at hd
      obtain ⟨rfl, rfl⟩ := hd
      exact r σ G H ρ z.1 z.2 _ E q fun v G' H' P => k _ G' H' (sto_ok P q1)
theorem SS.set {i : Nat} {x : Str} {pos' : Pos} (hN : X.N.Nodup) (hi : X.N[i]? = some x) (hx : Loc X.env.scope x) (h : SE X fa e de) (hs : swapsWith e (some (.Name x pos')) pos.line X.env = pure false) (hf : X.fn x = true ∨ X.env.scope.names.lookup x = some .local) :
    SS X fa (.Assign [.Name x pos'] e pos) [i] (dSet i de) := by
  obtain ⟨t, p, r⟩ := h
  exact ⟨_, ps_set hN hi hx p hs hf, set_read r⟩
theorem SS.setC {i : Nat} {y : Str} {py : Pos} {elt tg iter : Expr} {ifs : List Expr} {scope : Scope} {own : List (Str × Nat)} {pos spos : Pos} {src : DenI} {cs : List Nat} {g : DenG} {dt : DenT} {dd : Den} (hc : X.calm = true) (hN : X.N.Nodup) (hy : X.N[i]? = some y) (hyl : X.env.scope.names.lookup y = some .local)
    (hsw : swapsWith (.ListComp elt [⟨tg, iter, ifs, 0⟩] scope pos) (some (.Name y py)) spos.line X.env = pure true) (hi : SI X fa tg iter src)
    (ok : BlkOk X.N X.env.scope scope own) (has : ∀ i ∈ cs, i ∈ own.map (·.2))
    (hg : ∀ (s : Shared) (H : Hp) (C : Addr) (cl : List (Str × Addr)) (fp : List Addr), SG (X.blk s H scope (compEnvC scope cl C X.env) fp) fa tg cs g)
    (ht : ∀ (s : Shared) (H : Hp) (C : Addr) (cl : List (Str × Addr)) (fp : List Addr), STs (X.blk s H scope (compEnvC scope cl C X.env) fp) fa ifs dt)
    (he : ∀ (s : Shared) (H : Hp) (C : Addr) (cl : List (Str × Addr)) (fp : List Addr), SE (X.blk s H scope (compEnvC scope cl C X.env) fp) fa elt dd) (hs : ∀ x, foldedSetIterable iter X.env x = pure x) :
    SS X fa (.Assign [.Name y py] (.ListComp elt [⟨tg, iter, ifs, 0⟩] scope pos) spos) [i] (dSet i (compD src (own.map (·.2)) g dt dd)) := by
  obtain ⟨_, wi, pi, key⟩ := SE.comp (pos := pos) hc hN hi ok has hg ht he hs
  have pg : ∀ (s : Shared) (H : Hp) (C : Addr) (cl : List (Str × Addr)) (fp : List Addr), PG (X.blk s H scope (compEnvC scope cl C X.env) fp) tg (tDG X.K fa cs g) := hg
  have pt : ∀ (s : Shared) (H : Hp) (C : Addr) (cl : List (Str × Addr)) (fp : List Addr), PTs (X.blk s H scope (compEnvC scope cl C X.env) fp) ifs (tDT X.K fa dt) := ht
  have pe : ∀ (s : Shared) (H : Hp) (C : Addr) (cl : List (Str × Addr)) (fp : List Addr), PE (X.blk s H scope (compEnvC scope cl C X.env) fp) elt (tD X.K fa dd) := fun s H C cl fp => (he s H C cl fp).pe
  exact ⟨_, ps_setLc hc hN hy hyl hsw pi ok pg pt pe hs, set_read fun σ G H ρ l ρ' Q E hd k => key σ H Q ⟨G, ρ, l, ρ', E, hd, k⟩⟩
/-- targets of other forms -/
def dAsg (d : Den) (g : DenG) : DenS := fun ρ => (d ρ).bind fun p => p.1.tree.bind fun x => (g x p.2).map fun r => (.nx, r)
theorem SS.asg {tg : Expr} {g : DenG} (h : SE X fa e de) (hg : SG X fa tg as g) (hs : swapsWithSole [tg] e pos.line X.env = pure false) (hw : swappedStores [tg] e X.env = pure none) (h1 : (assignEach [tg] X.env).map (·.2) = [assign tg X.env]) :
    SS X fa (.Assign [tg] e pos) as (dAsg de g) := by
  obtain ⟨t, p, r⟩ := h
  refine ⟨_, ps_asg p hg hs hw h1, fun σ G H ρ fl ρ' D E hd k => ?_⟩
  cases q : de ρ with
  | none => simp [dAsg, q] at hd
  | some z =>
    cases q1 : z.1.tree with
    | none => simp [dAsg, q, q1] at hd
    | some x =>
      cases q2 : g x z.2 with
      | none => simp [dAsg, q, q1, q2] at hd
      | some ρ2 =>
        simp [dAsg, q, q1, q2] at hd
        obtain ⟨rfl, rfl⟩ := hd
        refine r σ G H ρ z.1 z.2 _ E q fun v G1 H1 P => ?_
        obtain ⟨G2, E2, R2, A2, sm, _⟩ := toTree P.env P.rep P.new P.aft q1
        exact ⟨G2, z.2, x, ρ2, E2, R2, q2, fun σ' E' c' s' => k σ' G2 H1 ⟨⟨E', A2.gg, A2.keep, A2.gn, A2.there, fun a z => A2.cs a (c' a z)⟩, s'⟩⟩
/-- a, b = x, y: plain local names -/
def dPar (i j : Nat) (da : DenA) : DenS := fun ρ => (da ρ).bind fun p => match p.1 with
  | [x, y] => if i < p.2.length && decide (j < p.2.length) then some (.nx, (p.2.set i (.t x)).set j (.t y)) else none
  | _ => none
theorem SS.par {i j : Nat} {x y : Str} {a b : Expr} {da : DenA} {px py pt : Pos} {kt k2 : Nat} {pt2 : Pos} (hc : X.calm = true) (hN : X.N.Nodup) (hi : X.N[i]? = some x) (hj : X.N[j]? = some y) (hij : i ≠ j)
    (hx : X.env.scope.names.lookup x = some .local) (hy : X.env.scope.names.lookup y = some .local) (ha : SA X fa [a, b] da)
    (hw : swappedStores [.Tuple [.Name x px, .Name y py] kt pt] (.Tuple [a, b] k2 pt2) X.env = pure (some [x, y])) (hs : swapsWithSole [.Tuple [.Name x px, .Name y py] kt pt] (.Tuple [a, b] k2 pt2) pos.line X.env = pure false) :
    SS X fa (.Assign [.Tuple [.Name x px, .Name y py] kt pt] (.Tuple [a, b] k2 pt2) pos) [i, j] (dPar i j da) := by
  obtain ⟨t, p, r⟩ := ha
  refine ⟨_, ps_par hc hN hi hj hij hx hy p hw hs, fun σ G H ρ fl ρ' D E hd k => ?_⟩
  cases q : da ρ with
  | none => simp [dPar, q] at hd
  | some z =>
    obtain ⟨ts, ρ1⟩ := z
    simp only [dPar, q, Option.bind_some] at hd
    split at hd
    · rename_i u w
      split at hd
      · rename_i hl
        cases hd
        simp only [Bool.and_eq_true, decide_eq_true_eq] at hl
        refine r σ G H ρ [u, w] ρ1 _ E q fun vs G1 H1 A R => ?_
        cases R with
        | cons r1 R =>
          cases R with
          | cons r2 R =>
            cases R
            rename_i v1 v2
            have E1 := A.env.set_t hl.1 r1
            have E2 := E1.set_t (i := j) (by simpa using hl.2) r2
            exact ⟨_, _, rfl, k _ G1 H1 ⟨⟨E2, A.aft.gg, A.aft.keep, A.aft.gn, A.aft.there, fun a z => A.aft.cs a (Cl.set_t (fun c z => by cases z) (Cl.set_t (fun c z => by cases z) z))⟩, (Slots.set (i := i)).trans (Slots.set (i := j))⟩⟩
      · cases hd
    · cases hd
/-- if -/
def dIfS (c : DenT) (d d' : DenS) : DenS := fun ρ => (c ρ).bind fun p => if p.1 then d p.2 else d' p.2
theorem SS.ite {c : Expr} {a b : List Stmt} {dc : DenT} (hc : ST X fa c dc) (ha : SSs X fa a as d) (hb : SSs X fa b bs d') : SS X fa (.If c a b pos) (as ++ bs) (dIfS dc d d') := by
  obtain ⟨tc, pc, rc⟩ := hc
  obtain ⟨t, p, r⟩ := ha
  obtain ⟨t', p', r'⟩ := hb
  refine ⟨_, ps_if pc p p', fun σ G H ρ fl ρ' D E hd k => ?_⟩
  cases q : dc ρ with
  | none => simp [dIfS, q] at hd
  | some z =>
    refine rc σ G H ρ z.1 z.2 _ E q fun G1 H1 A1 => ?_
    have B1 : AtS X.K fa (Cl σ ρ) G H σ [] G1 H1 σ z.2 := ⟨A1, Slots.refl⟩
    cases q1 : z.1 with
    | true =>
      simp [dIfS, q, q1] at hd
      exact iteT (r σ G1 H1 z.2 fl ρ' D A1.env hd (Cont.step (as := []) B1 (Cont.mono (fun i h => List.mem_append_left _ (by simpa using h)) k)))
    | false =>
      simp [dIfS, q, q1] at hd
      exact iteF (r' σ G1 H1 z.2 fl ρ' D A1.env hd (Cont.step (as := []) B1 (Cont.mono (fun i h => List.mem_append_right _ (by simpa using h)) k)))
/-- while -/
def whileL (c : DenT) (db : DenS) : Nat → REnv → Option (Fl × REnv)
  | 0, _ => none
  | n + 1, ρ => (c ρ).bind fun p => if p.1 then (db p.2).bind fun q => (match q.1 with
    | .nx => whileL c db n q.2
    | .cont => whileL c db n q.2
    | .brk => some (.nx, q.2)
    | .ret l => some (.ret l, q.2)) else some (.nx, p.2)
theorem SS.while {c : Expr} {body : List Stmt} {dc : DenT} {n : Nat} (hp : PassesOwn (model X.prog X.w) X.A X.env X.xe) (hc : ST X fa c dc) (hb : SSs X fa body as d) : SS X fa (.While c body [] pos) as (whileL dc d n) := by
  obtain ⟨tc, pc, rc⟩ := hc
  obtain ⟨t, p, r⟩ := hb
  refine ⟨_, ps_while hp pc p, fun σ G H ρ fl ρ' D E hd k => ?_⟩
  refine ⟨fun m σ1 H1 => ∃ (G1 : Hp) (ρ1 : REnv), AtS X.K fa (Cl σ ρ) G H σ as G1 H1 σ1 ρ1 ∧ whileL dc d m ρ1 = some (fl, ρ'), ⟨n, G, ρ, ⟨At.start E, Slots.refl⟩, hd⟩, ?_⟩
  rintro m σ1 H1 ⟨G1, ρ1, A1, hw⟩
  cases m with
  | zero => cases hw
  | succ m =>
    cases q : dc ρ1 with
    | none => simp [whileL, q] at hw
    | some z =>
      refine rc σ1 G1 H1 ρ1 z.1 z.2 _ A1.env q fun G2 H2 A2 => ?_
      have B2 : AtS X.K fa (Cl σ ρ) G H σ as G2 H2 σ1 z.2 := ⟨⟨A2.env, A1.aft.trans A2.aft⟩, A1.slots⟩
      cases q1 : z.1 with
      | false =>
        simp [whileL, q, q1] at hw
        obtain ⟨rfl, rfl⟩ := hw
        exact iteF (k σ1 G2 H2 B2)
      | true =>
        cases q2 : d z.2 with
        | none => simp [whileL, q, q1, q2] at hw
        | some y =>
          obtain ⟨f2, ρ2⟩ := y
          refine iteT ⟨fun σ3 H3 => ∃ (G3 : Hp), AtS X.K fa (Cl σ ρ) G H σ as G3 H3 σ3 ρ2 ∧ whileL dc d m ρ2 = some (fl, ρ'), fun σ3 H3 ⟨G3, A3, h3⟩ => ⟨m, Nat.lt_succ_self m, G3, ρ2, A3, h3⟩, ?_⟩
          refine r σ1 G2 H2 z.2 f2 ρ2 _ A2.env q2 ?_
          have aa : ∀ {G3 H3 : Hp} {σ3 : L2.St} {ρ3 : REnv}, AtS X.K fa (Cl σ1 z.2) G2 H2 σ1 as G3 H3 σ3 ρ3 → AtS X.K fa (Cl σ ρ) G H σ as G3 H3 σ3 ρ3 := fun h => ⟨(B2.then h).toAt, (B2.then h).slots.mono fun i hi => by
            rcases List.mem_append.mp hi with z | z <;> exact z⟩
          cases f2 with
          | nx =>
            simp [whileL, q, q1, q2] at hw
            exact fun σ3 G3 H3 A3 => ⟨G3, aa A3, hw⟩
          | cont =>
            simp [whileL, q, q1, q2] at hw
            exact fun σ3 G3 H3 A3 => ⟨G3, aa A3, hw⟩
          | brk =>
            simp [whileL, q, q1, q2] at hw
            obtain ⟨rfl, rfl⟩ := hw
            exact fun σ3 G3 H3 A3 => k σ3 G3 H3 (aa A3)
          | ret l =>
            simp [whileL, q, q1, q2] at hw
            obtain ⟨rfl, rfl⟩ := hw
            exact fun v σ3 G3 H3 A3 rr nn => k v σ3 G3 H3 (aa A3) rr (nn.aft B2.aft)
/-- for -/
def forL (g : DenG) (db : DenS) : List T → REnv → Option (Fl × REnv)
  | [], ρ => some (.nx, ρ)
  | x :: xs, ρ => (g x ρ).bind fun ρa => (db ρa).bind fun q => match q.1 with
    | .nx => forL g db xs q.2
    | .cont => forL g db xs q.2
    | .brk => some (.nx, q.2)
    | .ret l => some (.ret l, q.2)
def dFor (as : List Nat) (src : DenI) (g : DenG) (db : DenS) : DenS := fun ρ => (src ρ).bind fun s => if s.2.1.all (fun i => !as.contains i) then
  (forL g db s.1 (hideO s.2.1 s.2.2)).map fun r => (r.1, restE s.2.2 r.2 s.2.1.toList) else none
end
end LW
namespace LW
open PySem PySem.Spec PyProof.Rows L2

section
variable {X : Cx} {fa : Nat → Addr} {tg iter : Expr} {body : List Stmt} {as bs : List Nat} {d : DenS} {pos : Pos}
theorem SS.for {src : DenI} {g : DenG} (hp : PassesOwn (model X.prog X.w) X.A X.env X.xe) (hc : X.calm = true) (hi : SI X fa tg iter src) (hg : SG X fa tg as g) (hb : SSs X fa body bs d) (hs : ∀ x, foldedSetIterable iter X.env x = pure x) :
    SS X fa (.For tg iter body [] pos) (as ++ bs) (dFor (as ++ bs) src g d) := by
  obtain ⟨wi, pi, ri⟩ := hi
  obtain ⟨t, p, r⟩ := hb
  refine ⟨_, ps_for hp hc pi hg p hs, fun σ G H ρ fl ρ' D E hd k => ?_⟩
  cases q0 : src ρ with
  | none => simp [dFor, q0] at hd
  | some z =>
    obtain ⟨xs, ho, ρ1⟩ := z
    by_cases hh : ho.all (fun i => !(as ++ bs).contains i) = true
    · cases q1 : forL g d xs (hideO ho ρ1) with
      | none => simp only [dFor, q0, Option.bind_some, hh, if_true, q1] at hd; cases hd
      | some rr =>
        obtain ⟨f1, ρ2⟩ := rr
        simp only [dFor, q0, Option.bind_some, hh, if_true, q1, Option.map_some] at hd
        cases hd
        refine ri σ G H ρ xs ho ρ1 _ E q0 fun J bb Kp G1 H1 A1 W kp hb => ?_
        have E0 : EnvOk X.K fa G1 H1 σ (hideO ho ρ1) := by
          cases ho with
          | none => exact A1.env
          | some i => exact A1.env.hide i
        have sub0 : ∀ a, Cl σ (hideO ho ρ1) a → Cl σ ρ1 a := by
          cases ho with
          | none => exact fun a h => h
          | some i => exact fun a h => Cl.hide h
        -- what was hidden comes back behind the loop
        have back : ∀ {G2 H2 : Hp} {σ2 : L2.St} {ρ2 : REnv}, AtS X.K fa (Cl σ (hideO ho ρ1)) G1 H1 σ (as ++ bs) G2 H2 σ2 ρ2 → AtS X.K fa (Cl σ ρ) G H σ (as ++ bs) G2 H2 σ2 (restE ρ1 ρ2 ho.toList) ∧ ∀ a, Cl σ2 (restE ρ1 ρ2 ho.toList) a → Cl σ2 ρ2 a ∨ Cl σ ρ1 a := by
          intro G2 H2 σ2 ρ2 A2
          have upA0 : Aft (Cl σ ρ1) (Cl σ2 ρ2) G1 H1 G2 H2 := ⟨A2.aft.gg, fun a o e n => A2.aft.keep a o e fun z => n (sub0 a z), fun a o e n g => A2.aft.gn a o e (fun z => n (sub0 a z)) g, A2.aft.there, fun a h => by
            rcases A2.aft.cs a h with z | z
            · exact .inl (sub0 a z)
            · exact .inr z⟩
          cases ho with
          | none => exact ⟨⟨⟨A2.env, A1.aft.trans upA0⟩, A2.slots⟩, fun a h => .inl h⟩
          | some i =>
            have hni : i ∉ as ++ bs := by
              simp only [Option.all_some, Bool.not_eq_true', List.contains_eq_mem, decide_eq_false_iff_not] at hh
              exact hh
            have hσ : σ2[i]? = σ[i]? := A2.slots.keep i hni
            have lenE : ρ1.length = ρ2.length := by rw [A1.env.len, A2.env.len, A2.slots.len]
            have hidN : ∀ (c : OC) (a : Addr), ρ1[i]? = some (.own c) → σ[i]? = some (some (.ref a)) → ¬ Cl σ (ρ1.set i .un) a := fun c a e1 e2 ⟨j, c', f1, f2⟩ => by
              rcases set_get f1 with ⟨_, z⟩ | ⟨n, z⟩
              · cases z
              · exact n (A1.env.inj j i c' c a z e1 f2 e2)
            have csub : ∀ a, Cl σ2 (restE ρ1 ρ2 [i]) a → Cl σ2 ρ2 a ∨ Cl σ ρ1 a := fun a ⟨j, c, e1, e2⟩ => by
              rcases restE_get lenE e1 with ⟨h1, h2⟩ | ⟨h1, h2⟩
              · have : j = i := by simpa using h1
                subst this
                rw [hσ] at e2
                exact .inr ⟨j, c, h2, e2⟩
              · exact .inl ⟨j, c, h2, e2⟩
            refine ⟨⟨⟨⟨A2.env.same, by show (restE ρ1 ρ2 [i]).length = _; rw [restE_len]; exact A2.env.len, fun j x e => ?_, fun j c e => ?_, fun j j' c c' a e1 e2 e3 e4 => ?_⟩, A1.aft.trans ⟨upA0.gg, upA0.keep, upA0.gn, upA0.there, fun a h => ?_⟩⟩, A2.slots⟩, csub⟩
            · rcases restE_get lenE e with ⟨h1, h2⟩ | ⟨h1, h2⟩
              · have : j = i := by simpa using h1
                subst this
                obtain ⟨v, f1, f2⟩ := A1.env.t j x h2
                exact ⟨v, by rw [hσ]; exact f1, f2.mono A2.aft.gg⟩
              · exact A2.env.t j x h2
            · rcases restE_get lenE e with ⟨h1, h2⟩ | ⟨h1, h2⟩
              · have : j = i := by simpa using h1
                subst this
                obtain ⟨a, o, f1, f2, f3, f4⟩ := A1.env.own j c h2
                have nc := hidN c a h2 f1
                exact ⟨a, o, by rw [hσ]; exact f1, A2.aft.gn a o f3 nc f2, A2.aft.keep a o f3 nc, f4.mono A2.aft.gg⟩
              · exact A2.env.own j c h2
            · have cross : ∀ (j' : Nat) (c c' : OC), ρ1[i]? = some (.own c) → σ2[i]? = some (some (.ref a)) → ρ2[j']? = some (.own c') → σ2[j']? = some (some (.ref a)) → False := fun j' c c' h2 h3 h5 h6 => by
                rw [hσ] at h3
                obtain ⟨p, o, f1, f2, f3, f4⟩ := A1.env.own i c h2
                rw [h3] at f1; cases f1
                rcases A2.aft.cs a ⟨j', c', h5, h6⟩ with z | z
                · exact hidN c a h2 h3 z
                · rw [z] at f3; cases f3
              rcases restE_get lenE e1 with ⟨h1, h2⟩ | ⟨h1, h2⟩
              · have : j = i := by simpa using h1
                subst this
                rcases restE_get lenE e2 with ⟨h3, h4⟩ | ⟨h3, h4⟩
                · have : j' = j := by simpa using h3
                  exact this.symm
                · exact (cross j' c c' h2 e3 h4 e4).elim
              · rcases restE_get lenE e2 with ⟨h3, h4⟩ | ⟨h3, h4⟩
                · have : j' = i := by simpa using h3
                  subst this
                  exact (cross j c' c h4 e4 h2 e3).elim
                · exact A2.env.inj j j' c c' a h2 h4 e3 e4
            · rcases csub a h with z | z
              · rcases A2.aft.cs a z with y | y
                · exact .inl (sub0 a y)
                · exact .inr y
              · exact .inl z
        refine ⟨fun i m σ' H' => m = xs.length - i ∧ i ≤ xs.length ∧ ∃ (G' : Hp) (ρi : REnv), AtS X.K fa (Cl σ (hideO ho ρ1)) G1 H1 σ (as ++ bs) G' H' σ' ρi ∧ Kp G' H' ∧ forL g d (xs.drop i) ρi = some (fl, ρ2),
          ⟨xs.length, by simp, Nat.zero_le _, G1, hideO ho ρ1, ⟨At.start E0, Slots.refl⟩, kp, by simpa using q1⟩, ?_⟩
        rintro i m σi Hi ⟨rfl, hle, Gi, ρi, Ai, kpi, hf⟩
        by_cases hlt : i < xs.length
        · have ex : xs[i]? = some xs[i] := by simp [hlt]
          obtain ⟨go, yl⟩ := W.go i Gi Hi xs[i] kpi Ai.env.same ex
          have hdrop : xs.drop i = xs[i] :: xs.drop (i + 1) := List.drop_eq_getElem_cons hlt
          rw [hdrop] at hf
          cases qa : g xs[i] ρi with
          | none => simp [forL, qa] at hf
          | some ρa =>
            cases qb : d ρa with
            | none => simp [forL, qa, qb] at hf
            | some pb =>
              obtain ⟨f2, ρb⟩ := pb
              refine .inr ⟨go, fun σ' H' => ∃ (G' : Hp), AtS X.K fa (Cl σ (hideO ho ρ1)) G1 H1 σ (as ++ bs) G' H' σ' ρb ∧ Kp G' H' ∧ forL g d (xs.drop (i + 1)) ρb = some (fl, ρ2), fun σ' H' ⟨G', h1, h2, h3⟩ => ⟨xs.length - (i + 1), by omega, rfl, hlt, G', ρb, h1, h2, h3⟩, fun v H' hv => ?_⟩
              obtain ⟨G', a1, sm, rv⟩ := yl v H' hv
              have a1' : Aft (Cl σi ρi) (Cl σi ρi) Gi Hi G' H' := a1.wide fun _ h => h.elim
              have E1 : EnvOk X.K fa G' H' σi ρi := Ai.env.carry a1 sm fun _ _ h => h
              refine ⟨G', ρi, xs[i], ρa, E1, rv, qa, fun σ2 E2 c2 s2 => ?_⟩
              have a2 : Aft (Cl σi ρi) (Cl σ2 ρa) G' H' G' H' := ⟨Same.refl _, fun _ _ h _ => h, fun _ _ _ _ h => h, fun _ h => h, fun a h => .inl (c2 a h)⟩
              have step : ∀ {G3 H3 : Hp} {σ3 : L2.St} {ρ3 : REnv}, AtS X.K fa (Cl σ2 ρa) G' H' σ2 bs G3 H3 σ3 ρ3 → AtS X.K fa (Cl σ (hideO ho ρ1)) G1 H1 σ (as ++ bs) G3 H3 σ3 ρ3 ∧ Aft (Cl σi ρi) (Cl σ3 ρ3) Gi Hi G3 H3 := fun {G3 H3 σ3 ρ3} h =>
                ⟨⟨⟨h.env, Ai.aft.trans ((a1'.trans a2).trans h.aft)⟩, (Ai.slots.trans (s2.trans h.slots)).mono fun j hj => by
                  rcases List.mem_append.mp hj with z | z <;> exact z⟩, (a1'.trans a2).trans h.aft⟩
              have bsN : ∀ b ∈ bb, ¬ Cl σi ρi b := fun b hbb => by
                obtain ⟨f1, f2⟩ := hb b hbb
                cases q : H1 b with
                | none => exact absurd q f1
                | some o => exact Ai.aft.ne q f2
              have nwB : ∀ {v : V} {l : L}, NewL H' v l → NewL H v l := fun h => ((h.aft a1').aft Ai.aft).aft A1.aft
              refine r σ2 G' H' ρa f2 ρb _ E2 qb ?_
              cases f2 with
              | nx =>
                simp [forL, qa, qb] at hf
                exact fun σ3 G3 H3 A3 => ⟨G3, (step A3).1, W.stb _ _ _ _ _ _ kpi (step A3).2 bsN, hf⟩
              | cont =>
                simp [forL, qa, qb] at hf
                exact fun σ3 G3 H3 A3 => ⟨G3, (step A3).1, W.stb _ _ _ _ _ _ kpi (step A3).2 bsN, hf⟩
              | brk =>
                simp [forL, qa, qb] at hf
                obtain ⟨rfl, rfl⟩ := hf
                exact fun σ3 G3 H3 A3 => k σ3 G3 H3 (back (step A3).1).1
              | ret l =>
                simp [forL, qa, qb] at hf
                obtain ⟨rfl, rfl⟩ := hf
                intro v σ3 G3 H3 A3 rl nl
                obtain ⟨b1, b2⟩ := back (step A3).1
                refine k v σ3 G3 H3 b1 ?_ (nwB nl)
                cases l with
                | un => exact rl
                | t x => exact rl
                | ref j => exact rl
                | own c =>
                  obtain ⟨pa, o, rfl, gp, nc, hh2, ro⟩ := rl
                  refine ⟨pa, o, rfl, gp, fun hc => ?_, hh2, ro⟩
                  rcases b2 pa hc with z | z
                  · exact nc z
                  · obtain ⟨j, c', f1, f2⟩ := z
                    obtain ⟨a', o', u1, u2, u3, u4⟩ := A1.env.own j c' f1
                    rw [f2] at u1; cases u1
                    have : H1 pa = none := ((nl.aft a1').aft Ai.aft) pa rfl
                    rw [this] at u3; cases u3
        · have hi : i = xs.length := by omega
          subst hi
          simp [forL] at hf
          obtain ⟨rfl, rfl⟩ := hf
          exact .inl ⟨W.stop _ Gi Hi kpi Ai.env.same (Nat.le_refl _), k σi Gi Hi (back Ai).1⟩
    · simp only [dFor, q0, Option.bind_some, hh] at hd
      cases hd
end
end LW
namespace LW
open PySem PySem.Spec PyProof.Rows L2

section
variable {K : PySem.W.Frag} {fa : Nat → Addr} {C0 : Addr → Prop} {G0 H0 G H : Hp} {σ : L2.St} {ρ : REnv}
/-- a slot's own object is changed -/
theorem At.put (A : At K fa C0 G0 H0 G H σ ρ) {i : Nat} {a : Addr} {c c' : OC} {o o' : HO} (hi : ρ[i]? = some (.own c)) (hs : σ[i]? = some (some (.ref a))) (h : H a = some o) (r : ORep K fa G o' c') :
    At K fa C0 G0 H0 G (upd H a o') σ (ρ.set i (.own c')) := by
  obtain ⟨p, o2, f1, g, f3, f4⟩ := A.env.own i c hi
  rw [hs] at f1; cases f1
  have hil : i < ρ.length := (List.getElem?_eq_some_iff.mp hi).1
  have key : ∀ (j : Nat) (d : OC), (ρ.set i (L.own c'))[j]? = some (.own d) → ∃ d', ρ[j]? = some (.own d') := fun j d f => by
    rcases set_get f with ⟨rfl, _⟩ | ⟨_, f⟩
    · exact ⟨_, hi⟩
    · exact ⟨d, f⟩
  have sub : ∀ b, Cl σ (ρ.set i (.own c')) b → Cl σ ρ b := fun b ⟨j, d, e1, e2⟩ => by
    obtain ⟨d', k⟩ := key j d e1
    exact ⟨j, d', k, e2⟩
  refine ⟨⟨fun b u e => ?_, by simp [A.env.len], fun j x e => ?_, fun j d e => ?_, fun j j' d d' b e1 e2 e3 e4 => ?_⟩, ⟨A.aft.gg, fun b u e nc => ?_, A.aft.gn, fun b e => ?_, fun b hb => A.aft.cs b (sub b hb)⟩⟩
  · rw [upd_ne (ne_of_none e g)]; exact A.env.same b u e
  · rcases set_get e with ⟨_, z⟩ | ⟨_, f⟩
    · cases z
    · exact A.env.t j x f
  · rcases set_get e with ⟨rfl, z⟩ | ⟨n, f⟩
    · cases z
      exact ⟨a, o', hs, g, upd_same, r⟩
    · obtain ⟨b, u, u1, u2, u3, u4⟩ := A.env.own j d f
      refine ⟨b, u, u1, u2, ?_, u4⟩
      rw [upd_ne (show b ≠ a from fun z => by subst z; exact n (A.env.inj j i _ _ b f hi u1 hs))]
      exact u3
  · obtain ⟨d1, k1⟩ := key j d e1
    obtain ⟨d2, k2⟩ := key j' d' e2
    exact A.env.inj j j' d1 d2 b k1 k2 e3 e4
  · have hb : b ≠ a := fun z => by
      subst z
      rcases A.aft.cs b ⟨i, c, hi, hs⟩ with y | y
      · exact nc y
      · rw [y] at e; cases e
    rw [upd_ne hb]
    exact A.aft.keep b u e nc
  · by_cases hb : b = a
    · subst hb; rw [upd_same] at e; cases e
    · rw [upd_ne hb] at e; exact A.aft.there b e
end

/-! ### methods that change a slot's own list -/
/-- a rule by trees: the list before, the arguments; what comes out (a tree), the list behind -/
def MeT (K : PySem.W.Frag) (fa : Nat → Addr) (r : V → List V → Hp → VK → Prop) (f : List T → List T → Option (T × List T)) : Prop :=
  ∀ (G H : Hp) (a : Addr) (ws vs : List V) (xs ts xs' : List T) (y : T) (Q : VK), Same G H → RepAll K fa G ws xs → RepAll K fa G vs ts → H a = some (.lst ws) → f xs ts = some (y, xs') →
    (∀ v ws', Rep K fa G v y → RepAll K fa G ws' xs' → Q v (upd H a (.lst ws'))) → r (.ref a) vs H Q
def dMeth (i : Nat) (f : List T → List T → Option (T × List T)) (da : DenA) : Den := fun ρ => if isOwnL ρ i then (da ρ).bind fun p => (match p.2[i]? with
  | some (.own (.lst xs)) => (f xs p.1).map fun r => (.t r.1, p.2.set i (.own (.lst r.2)))
  | _ => none) else none
theorem meth_end {K : PySem.W.Frag} {fa : Nat → Addr} {r : V → List V → Hp → VK → Prop} {f : List T → List T → Option (T × List T)} {i : Nat} {G H G1 H1 : Hp} {σ : L2.St} {ρ ρ1 : REnv} {a : Addr} {vs : List V} {ts xs xs' : List T} {y : T} {Q : VK} (me : MeT K fa r f)
    (A : At K fa (Cl σ ρ) G H G1 H1 σ ρ1) (R : RepAll K fa G1 vs ts) (hi : ρ1[i]? = some (.own (.lst xs))) (hs : σ[i]? = some (some (.ref a))) (hf : f xs ts = some (y, xs'))
    (k : ∀ v G' H', Post K fa G H σ ρ (.t y) (ρ1.set i (.own (.lst xs'))) v G' H' → Q v H') : r (.ref a) vs H1 Q := by
  obtain ⟨p, o, f1, g, f3, f4⟩ := A.env.own i _ hi
  rw [hs] at f1; cases f1
  cases o with
  | lst ws =>
    refine me G1 H1 a ws vs xs ts xs' y Q A.env.same f4 R f3 hf fun v ws' rv rw' => ?_
    have B := A.put (c' := .lst xs') (o' := .lst ws') hi hs f3 rw'
    exact k v G1 _ ⟨B.aft, B.env, rv, trivial⟩
  | _ => exact (show False from f4).elim
section
variable {X : Cx} {fa : Nat → Addr} {e : Expr} {es : List Expr} {x : Str} {name : Str} {pos apos cpos : Pos} {id : String} {r : V → List V → Hp → VK → Prop} {f : List T → List T → Option (T × List T)} {i : Nat}
theorem SE.meth {da : DenA} (slot : Slot "list" name id) (hty : typeOf (.builtin id) = pure (.type "method_descriptor")) (hm : MtR X id r) (me : MeT X.K fa r f)
    (hN : X.N[i]? = some x) (hv : Vis X.env.scope x) (hd : (x == ("__debug__" : Str)) = false) (hcd : (x == ("__classdict__" : Str)) = false) (ha : SA X fa (e :: es) da)
    (hfew : ((backTo cpos (starEach (e :: es) X.env)).all (fun x => !x.1) && (backToKw cpos (keywordEach [] X.env)).all (fun x => x.1.isSome)
      && decide ((e :: es).length + ([] : List Keyword).length + (if ([] : List Keyword).isEmpty then 0 else 1) < 30)) = true)
    (hline : (apos.endLine == cpos.line) = true) (hs : starEach (e :: es) X.env = (false, eval e X.env) :: starEach es X.env) (hplain : (backTo cpos (starEach es X.env)).any (·.1) = false) :
    SE X fa (.Call (.Attribute (.Name x pos) name apos) (e :: es) [] cpos) (dMeth i f da) := by
  obtain ⟨t, pt, rt⟩ := ha
  refine ⟨_, pe_bm PySem.F.plainAttrs_list slot hty hm (pe_var hN hv hd hcd) pt rfl hfew hline hs hplain, fun σ G H ρ l ρ' Q E hdd kk => ?_⟩
  by_cases ho : isOwnL ρ i = true
  · cases q : da ρ with
    | none => simp [dMeth, q, ho] at hdd
    | some z =>
      cases q2 : z.2[i]? with
      | none => simp [dMeth, q, q2, ho] at hdd
      | some m =>
        cases m with
        | own c =>
          cases c with
          | lst xs =>
            cases q1 : f xs z.1 with
            | none => simp [dMeth, q, q2, q1, ho] at hdd
            | some rr =>
              obtain ⟨y, xs'⟩ := rr
              simp [dMeth, q, q2, q1, ho] at hdd
              obtain ⟨rfl, rfl⟩ := hdd
              obtain ⟨c', hc'⟩ := isOwnL_inv ho
              obtain ⟨a0, o0, e0, g0, h0, r0⟩ := E.own i _ hc'
              cases o0 with
              | lst ws0 =>
                refine ⟨_, e0, .inl ⟨rfl, ws0, .of h0⟩, ?_⟩
                exact rt σ G H ρ z.1 z.2 _ E q fun vs G1 H1 A1 R1 => meth_end me A1 R1 q2 e0 q1 kk
              | _ => exact (show False from r0).elim
          | _ => simp [dMeth, q, q2, ho] at hdd
        | _ => simp [dMeth, q, q2, ho] at hdd
  · simp [dMeth, ho] at hdd
theorem SE.meth0 (slot : Slot "list" name id) (hty : typeOf (.builtin id) = pure (.type "method_descriptor")) (hm : MtR X id r) (me : MeT X.K fa r f)
    (hN : X.N[i]? = some x) (hv : Vis X.env.scope x) (hd : (x == ("__debug__" : Str)) = false) (hcd : (x == ("__classdict__" : Str)) = false) (hline : (apos.endLine == cpos.line) = true) :
    SE X fa (.Call (.Attribute (.Name x pos) name apos) [] [] cpos) (dMeth i f dNil) := by
  refine ⟨_, pe_bm0 PySem.F.plainAttrs_list slot hty hm (pe_var hN hv hd hcd) rfl hline, fun σ G H ρ l ρ' Q E hdd kk => ?_⟩
  by_cases ho : isOwnL ρ i = true
  · obtain ⟨xs, q2⟩ := isOwnL_inv ho
    cases q1 : f xs [] with
    | none => simp [dMeth, dNil, q2, q1, ho] at hdd
    | some rr =>
      obtain ⟨y, xs'⟩ := rr
      simp [dMeth, dNil, q2, q1, ho] at hdd
      obtain ⟨rfl, rfl⟩ := hdd
      obtain ⟨a0, o0, e0, g0, h0, r0⟩ := E.own i _ q2
      cases o0 with
      | lst ws0 => exact ⟨_, e0, .inl ⟨rfl, ws0, .of h0⟩, meth_end me (At.start E) .nil q2 e0 q1 kk⟩
      | _ => exact (show False from r0).elim
  · simp [dMeth, ho] at hdd
end
def fAppend (xs ts : List T) : Option (T × List T) := match ts with
  | [x] => if xs.length < line then some (.non, xs ++ [x]) else none
  | _ => none
theorem me_append {K : PySem.W.Frag} {fa : Nat → Addr} : MeT K fa rAppend fAppend := by
  intro G H a ws vs xs ts xs' y Q s rw rv h hf k
  unfold fAppend at hf
  split at hf
  · rename_i x
    split at hf
    · rename_i hz
      cases hf
      cases rv with
      | cons r1 r2 =>
        cases r2
        exact ⟨a, ws, _, rfl, rfl, h, by rw [rw.length, ← line_eq]; exact hz, k .non _ .non (rw.append (.one r1))⟩
    · cases hf
  · cases hf
def fExtend (xs ts : List T) : Option (T × List T) := match ts with
  | [.lst ys] => if xs.length + ys.length ≤ line then some (.non, xs ++ ys) else none
  | _ => none
theorem me_extend {K : PySem.W.Frag} {fa : Nat → Addr} : MeT K fa rExtend fExtend := by
  intro G H a ws vs xs ts xs' y Q s rw rv h hf k
  unfold fExtend at hf
  split at hf
  · rename_i ys
    split at hf
    · rename_i hz
      cases hf
      cases rv with
      | cons r1 r2 =>
        cases r2
        cases r1 with
        | lst g rr =>
          exact ⟨a, _, ws, _, rfl, rfl, h, s _ _ g, by rw [rw.length, rr.length, ← line_eq]; exact hz, k .non _ .non (rw.append rr)⟩
    · cases hf
  · cases hf
def fPop (xs ts : List T) : Option (T × List T) := match ts with
  | [] => (xs[xs.length - 1]?).map fun y => (y, xs.dropLast)
  | _ => none
theorem me_pop {K : PySem.W.Frag} {fa : Nat → Addr} : MeT K fa rPop fPop := by
  intro G H a ws vs xs ts xs' y Q s rw rv h hf k
  unfold fPop at hf
  split at hf
  · cases q : xs[xs.length - 1]? with
    | none => simp [q] at hf
    | some z =>
      simp [q] at hf
      obtain ⟨rfl, rfl⟩ := hf
      cases rv
      obtain ⟨v, h1, h2⟩ := rw.get q
      exact ⟨a, ws, v, rfl, rfl, h, by rw [rw.length]; exact h1, k v _ h2 rw.dropLast⟩
  · cases hf
def fReverse (xs ts : List T) : Option (T × List T) := match ts with
  | [] => some (.non, xs.reverse)
  | _ => none
theorem me_reverse {K : PySem.W.Frag} {fa : Nat → Addr} : MeT K fa rReverse fReverse := by
  intro G H a ws vs xs ts xs' y Q s rw rv h hf k
  unfold fReverse at hf
  split at hf
  · cases hf
    cases rv
    exact ⟨a, ws, rfl, rfl, h, k .non _ .non rw.rev⟩
  · cases hf

/-! ### stores into a slot's own list -/
def tDGm (K : PySem.W.Frag) (fa : Nat → Addr) (as : List Nat) (g : DenG) : TG := fun v σ H Q => ∃ (G : Hp) (ρ : REnv) (x : T) (ρ' : REnv), EnvOk K fa G H σ ρ ∧ Rep K fa G v x ∧ g x ρ = some ρ' ∧
  ∀ σ' G' H', AtS K fa (Cl σ ρ) G H σ as G' H' σ' ρ' → Q σ' H'
def SM (X : Cx) (fa : Nat → Addr) (tg : Expr) (as : List Nat) (g : DenG) : Prop := PG X tg (tDGm X.K fa as g)
def tDGms (K : PySem.W.Frag) (fa : Nat → Addr) (as : List Nat) (g : DenGs) : TGs := fun vs σ H Q => ∃ (G : Hp) (ρ : REnv) (xs : List T) (ρ' : REnv), EnvOk K fa G H σ ρ ∧ RepAll K fa G vs xs ∧ g xs ρ = some ρ' ∧
  ∀ σ' G' H', AtS K fa (Cl σ ρ) G H σ as G' H' σ' ρ' → Q σ' H'
def SMs (X : Cx) (fa : Nat → Addr) (ts : List Expr) (as : List Nat) (g : DenGs) : Prop := PGs X ts (tDGms X.K fa as g)
section
variable {X : Cx} {fa : Nat → Addr} {e tg : Expr} {es : List Expr} {pos : Pos} {as bs : List Nat} {d de : Den}
theorem SG.m {g : DenG} (h : SG X fa tg as g) : SM X fa tg as g := ⟨fun pins s σ H v u Q I r ⟨G, ρ, x, ρ', E, rx, hg, k⟩ =>
  h.run pins s σ H v u Q I r ⟨G, ρ, x, ρ', E, rx, hg, fun σ' E' c' s' => k σ' G H ⟨⟨E', Same.refl _, fun _ _ h _ => h, fun _ _ _ _ h => h, fun _ h => h, fun a z => .inl (c' a z)⟩, s'⟩⟩⟩
theorem SMs.nil : SMs X fa [] [] gNilT := ⟨fun pins s σ H vs us Q I r ⟨G, ρ, xs, ρ', E, rx, hg, k⟩ => by
  cases xs with
  | nil =>
    cases hg
    cases rx
    exact pgs_nil.run pins s σ H [] us Q I r ⟨rfl, k σ G H ⟨At.start E, Slots.refl⟩⟩
  | cons x xs => cases hg⟩
theorem SMs.cons {g : DenG} {gs : DenGs} (h1 : SM X fa e as g) (h2 : SMs X fa es bs gs) (hs : (assignEach (e :: es) X.env).map (·.2) = assign e X.env :: (assignEach es X.env).map (·.2)) : SMs X fa (e :: es) (as ++ bs) (gConsT g gs) :=
  ⟨fun pins s σ H vs us Q I r ⟨G, ρ, xs, ρ', E, rx, hg, k⟩ => by
  have h1' : PG X e (tDGm X.K fa as g) := h1
  have h2' : PGs X es (tDGms X.K fa bs gs) := h2
  refine (pgs_cons h1' h2' hs).run pins s σ H vs us Q I r ?_
  cases xs with
  | nil => cases hg
  | cons x xs =>
    cases rx with
    | @cons v vs _ _ a b =>
      cases q : g x ρ with
      | none => simp [gConsT, q] at hg
      | some ρ1 =>
        simp [gConsT, q] at hg
        exact ⟨v, vs, rfl, G, ρ, x, ρ1, E, a, q, fun σ1 G1 H1 A1 => ⟨G1, ρ1, xs, ρ', A1.env, b.mono A1.aft.gg, hg, fun σ2 G2 H2 A2 => k σ2 G2 H2 (A1.then A2)⟩⟩⟩
theorem SM.tup {gs : DenGs} {kk n : Nat} (hc : X.calm = true) (h : SMs X fa es as gs) (hn : (assignEach es X.env).length = n) (hst : (assignEach es X.env).findIdx? (·.1) = none) : SM X fa (.Tuple es kk pos) as (gTupT n gs) :=
  ⟨fun pins s σ H v u Q I r ⟨G, ρ, x, ρ', E, rx, hg, k⟩ => by
  have h' : PGs X es (tDGms X.K fa as gs) := h
  refine (pg_tup hc h' hn hst).run pins s σ H v u Q I r ?_
  unfold gTupT at hg
  split at hg
  · rename_i xs
    split at hg
    · rename_i hl
      cases rx with
      | tup s1 a => exact ⟨_, _, rfl, same_sqT E.same (.of s1), by rw [a.length]; exact hl, G, ρ, xs, ρ', E, a, hg, k⟩
    · cases hg
  · cases hg⟩
/-- xs[i] = .. -/
def gSubT (j : Nat) (di : Den) : DenG := fun y ρ => if isOwnL ρ j then (di ρ).bind fun p => p.1.asInt.bind fun k => (match p.2[j]? with
  | some (.own (.lst xs)) => (ixN xs.length k).map fun m => p.2.set j (.own (.lst (xs.set m y)))
  | _ => none) else none
theorem SM.sub {i : Expr} {j : Nat} {x : Str} {pn : Pos} {di : Den} (hN : X.N[j]? = some x) (hv : Vis X.env.scope x) (hd : (x == ("__debug__" : Str)) = false) (hcd : (x == ("__classdict__" : Str)) = false) (hi : SE X fa i di)
    (ha : ∀ v, assign (.Subscript (.Name x pn) i pos) X.env v = (do
      let ov ← holding [v] (eval (.Name x pn) X.env)
      let iv ← holding [v, ov] (eval i X.env)
      standAt pos
      holding [v, ov, iv] (setItem ov iv v)
      release [v, ov, iv] [])) : SM X fa (.Subscript (.Name x pn) i pos) [] (gSubT j di) := by
  obtain ⟨t, pt, rt⟩ := hi
  refine ⟨fun pins s σ H v u Q I r ⟨G, ρ, y, ρ', E, ry, hg, k⟩ => (pg_sub (pe_var hN hv hd hcd) pt set_list ha).run pins s σ H v u Q I r ?_⟩
  by_cases ho : isOwnL ρ j = true
  · cases q : di ρ with
    | none => simp [gSubT, ho, q] at hg
    | some z =>
      cases q1 : z.1.asInt with
      | none => simp [gSubT, ho, q, q1] at hg
      | some kx =>
        cases q2 : z.2[j]? with
        | none => simp [gSubT, ho, q, q1, q2] at hg
        | some m =>
          cases m with
          | own c =>
            cases c with
            | lst xs =>
              cases q3 : ixN xs.length kx with
              | none => simp [gSubT, ho, q, q1, q2, q3] at hg
              | some mm =>
                simp [gSubT, ho, q, q1, q2, q3] at hg
                subst hg
                obtain ⟨c', hc'⟩ := isOwnL_inv ho
                obtain ⟨a0, o0, e0, g0, h0, r0⟩ := E.own j _ hc'
                refine ⟨_, e0, rt σ G H ρ z.1 z.2 _ E q fun v2 G1 H1 P => ?_⟩
                obtain ⟨p, o, f1, g, f3, f4⟩ := P.env.own j _ q2
                rw [e0] at f1; cases f1
                have rp := P.rep
                rw [asInt_inv q1] at rp
                cases o with
                | lst ws =>
                  have f4 : RepAll X.K fa G1 ws xs := f4
                  refine ⟨a0, ws, kx, mm, rfl, Rep.int_inv rp, f3, by rw [f4.length]; exact q3, ?_⟩
                  have A1 : At X.K fa (Cl σ ρ) G H G1 H1 σ z.2 := ⟨P.env, P.aft⟩
                  exact k σ G1 _ ⟨A1.put (c' := .lst (xs.set mm y)) (o' := .lst (ws.set mm v)) q2 e0 f3 (f4.set mm (ry.mono P.aft.gg)), Slots.refl⟩
                | _ => exact (show False from f4).elim
            | _ => simp [gSubT, ho, q, q1, q2] at hg
          | _ => simp [gSubT, ho, q, q1, q2] at hg
  · simp [gSubT, ho] at hg
theorem SS.asgM {g : DenG} (h : SE X fa e de) (hg : SM X fa tg as g) (hs : swapsWithSole [tg] e pos.line X.env = pure false) (hw : swappedStores [tg] e X.env = pure none) (h1 : (assignEach [tg] X.env).map (·.2) = [assign tg X.env]) :
    SS X fa (.Assign [tg] e pos) as (dAsg de g) := by
  obtain ⟨t, p, r⟩ := h
  have hg' : PG X tg (tDGm X.K fa as g) := hg
  refine ⟨_, ps_asg p hg' hs hw h1, fun σ G H ρ fl ρ' D E hd k => ?_⟩
  cases q : de ρ with
  | none => simp [dAsg, q] at hd
  | some z =>
    cases q1 : z.1.tree with
    | none => simp [dAsg, q, q1] at hd
    | some x =>
      cases q2 : g x z.2 with
      | none => simp [dAsg, q, q1, q2] at hd
      | some ρ2 =>
        simp [dAsg, q, q1, q2] at hd
        obtain ⟨rfl, rfl⟩ := hd
        refine r σ G H ρ z.1 z.2 _ E q fun v G1 H1 P => ?_
        obtain ⟨G2, E2, R2, A2, sm, _⟩ := toTree P.env P.rep P.new P.aft q1
        exact ⟨G2, z.2, x, ρ2, E2, R2, q2, fun σ' G' H' A' => k σ' G' H' ⟨⟨A'.env, A2.trans A'.aft⟩, A'.slots⟩⟩
end
end LW
namespace LW
open PySem PySem.Spec PyProof.Rows L2

/-! ### name op= e -/
section
variable {X : Cx} {fa : Nat → Addr} {e : Expr} {es : List Expr} {pos : Pos} {de : Den}
def dAug (i : Nat) (g : REnv → L → L → Option L) (d : Den) : DenS := fun ρ => match ρ[i]? with
  | some (.t x) => (d ρ).bind fun p => (g p.2 (.t x) p.1).bind fun l => (stoE i l p.2).map fun r => (.nx, r)
  | _ => none
theorem SS.aug {i : Nat} {x : Str} {op : Operator} {r : R2} {g : REnv → L → L → Option L} {pos' : Pos} (hN : X.N.Nodup) (hi : X.N[i]? = some x) (hx : Loc X.env.scope x) (h : SE X fa e de) (ho : OpR X (inplaceOp op) r) (hg : OpT X.K fa r g) (hf : X.fn x = true ∨ X.env.scope.names.lookup x = some .local) :
    SS X fa (.AugAssign (.Name x pos') op e pos) [i] (dAug i g de) := by
  obtain ⟨t, p, rt⟩ := h
  refine ⟨_, ps_aug hN hi hx p ho hf, fun σ G H ρ fl ρ' D E hd k => ?_⟩
  unfold dAug at hd
  split at hd
  · rename_i y q0
    cases q : de ρ with
    | none => simp [q] at hd
    | some z =>
      cases q1 : g z.2 (.t y) z.1 with
      | none => simp [q, q1] at hd
      | some l =>
        cases q2 : stoE i l z.2 with
        | none => simp [q, q1, q2] at hd
        | some ρ2 =>
          simp [q, q1, q2] at hd
          obtain ⟨rfl, rfl⟩ := hd
          obtain ⟨v, e1, e2⟩ := E.t i y q0
          refine ⟨v, e1, rt σ G H ρ z.1 z.2 _ E q fun w G1 H1 P => ?_⟩
          have rv : LRep X.K fa G1 H1 (Cl σ z.2) σ v (.t y) := e2.mono P.aft.gg
          refine hg _ _ _ _ _ _ _ _ _ _ _ _ _ ⟨⟨P.env, P.aft⟩, rv, trivial, P.rep, P.new⟩ q1 fun u G2 H2 R => ?_
          exact k _ G2 H2 (sto_ok R.post q2)
  · cases hd
def gIAdd (_ : REnv) (l1 l2 : L) : Option L :=
  match l1, l2 with
  | .t (.int i), .t (.int j) => some (.t (.int (i + j)))
  | .t (.str i), .t (.str j) => if i.length + j.length ≤ line then some (.t (.str (i ++ j))) else none
  | _, _ => none
theorem opt_iadd {K : PySem.W.Frag} : OpT K fa (fun x y H Q => rI0 (fun i j => .int (i + j)) x y H Q ∨ (∃ i j, x = .str i ∧ y = .str j ∧ i.length + j.length ≤ sizeLine ∧ Q (.str (i ++ j)) H)) gIAdd := by
  intro C0 G0 H0 G H σ ρ v1 v2 l1 l2 l Q O e k
  unfold gIAdd at e
  split at e
  · cases e
    exact .inl ⟨_, _, Rep.int_inv O.r1, Rep.int_inv O.r2, k _ _ _ (O.toAt.int _)⟩
  · split at e
    · rename_i hz
      cases e
      exact .inr ⟨_, _, Rep.str_inv O.r1, Rep.str_inv O.r2, by rw [← line_eq]; exact hz, k _ _ _ (O.toAt.str _)⟩
    · cases e
  · cases e
theorem iop_addT : OpR X (inplaceOp .Add) (fun x y H Q => rI0 (fun i j => .int (i + j)) x y H Q ∨ (∃ i j, x = .str i ∧ y = .str j ∧ i.length + j.length ≤ sizeLine ∧ Q (.str (i ++ j)) H)) := iop_add.or iop_add_str
def gIMul (_ : REnv) (l1 l2 : L) : Option L :=
  match l1, l2 with
  | .t (.int i), .t (.int j) => if (decide (-(18446744073709551616) < i) && decide (i < 18446744073709551616)) || (decide (-(18446744073709551616) < j) && decide (j < 18446744073709551616)) then some (.t (.int (i * j))) else none
  | _, _ => none
theorem opt_imul {K : PySem.W.Frag} : OpT K fa (rI CMul fun i j => .int (i * j)) gIMul := by
  intro C0 G0 H0 G H σ ρ v1 v2 l1 l2 l Q O e k
  unfold gIMul at e
  split at e
  · split at e
    · rename_i h
      cases e
      refine ⟨_, _, Rep.int_inv O.r1, Rep.int_inv O.r2, ?_, k _ _ _ (O.toAt.int _)⟩
      simp only [Bool.or_eq_true, Bool.and_eq_true, decide_eq_true_eq] at h
      rcases h with h | h
      · exact .inl ⟨by omega, by omega⟩
      · exact .inr ⟨by omega, by omega⟩
    · cases e
  · cases e
/-! ### xs[i] op= e -/
theorem get_list : PGet X (rIxL X.K) := by
  intro pins s σ H x y v u Q I rx ry h
  obtain ⟨p, xs, i, z, rfl, rfl, hq, he, q⟩ := h
  cases rx
  obtain ⟨t, rfl⟩ := ry
  obtain ⟨its, r, pl, hz⟩ := I.list hq
  obtain ⟨j, h1, h2, h3, h4, h5⟩ := atI_get he
  obtain ⟨w, ew, rw'⟩ := r.get h2
  have hl := r.length
  have hn := line63
  have fin : EP X pins σ Q w s := ⟨z, H, I, rw', q⟩
  by_cases h0 : 0 ≤ i
  · have hj : i.toNat = j := by
      rw [seqIndex_of h0 h5] at h1
      exact Option.some.inj h1
    exact wpAny_getItem_list pl.isList h0 (by omega) (by rw [hj]; simpa using ew) fin
  · have hj : (i + (its.toArray.size : Int)).toNat = j := by
      rw [seqIndex_neg (by omega) h4] at h1
      rw [List.size_toArray, ← hl]
      exact Option.some.inj h1
    exact wpAny_getItem_list_neg pl.isList (by omega) (by rw [List.size_toArray] <;> omega) (by omega) (by rw [hj]; simpa using ew) fin
def dAugS (j : Nat) (g : REnv → L → L → Option L) (di de : Den) : DenS := fun ρ => if isOwnL ρ j then (di ρ).bind fun p => p.1.asInt.bind fun k => match p.2[j]? with
  | some (.own (.lst xs)) => (atI xs k).bind fun x => (de p.2).bind fun q => (g q.2 (.t x) q.1).bind fun l => l.tree.bind fun z => (match q.2[j]? with
    | some (.own (.lst ys)) => (ixN ys.length k).map fun m => (.nx, q.2.set j (.own (.lst (ys.set m z))))
    | _ => none)
  | _ => none else none
theorem SS.augS {i : Expr} {j : Nat} {x : Str} {pn tpos : Pos} {di : Den} {op : Operator} {r : R2} {g : REnv → L → L → Option L} (hN : X.N[j]? = some x) (hv : Vis X.env.scope x) (hd : (x == ("__debug__" : Str)) = false) (hcd : (x == ("__classdict__" : Str)) = false) (hi : SE X fa i di) (he : SE X fa e de)
    (ho : OpR X (inplaceOp op) r) (hg : OpT X.K fa r g) (ha : ∀ ov iv new, augStore i ov iv new = (do holding [new, ov, iv] (setItem ov iv new); release [new, ov, iv] []; pure .next)) :
    SS X fa (.AugAssign (.Subscript (.Name x pn) i tpos) op e pos) [] (dAugS j g di de) := by
  obtain ⟨t, pt, rt⟩ := hi
  obtain ⟨t2, pt2, rt2⟩ := he
  refine ⟨_, ps_augS (pe_var hN hv hd hcd) pt get_list pt2 ho set_list ha, fun σ G H ρ fl ρ' D E hdd k => ?_⟩
  by_cases hoo : isOwnL ρ j = true
  · obtain ⟨c', hc'⟩ := isOwnL_inv hoo
    obtain ⟨a0, o0, e0, g0, h0, r0⟩ := E.own j _ hc'
    cases q : di ρ with
    | none => simp [dAugS, hoo, q] at hdd
    | some z =>
      cases q1 : z.1.asInt with
      | none => simp [dAugS, hoo, q, q1] at hdd
      | some kx =>
        simp only [dAugS, hoo, q, q1, if_true, Option.bind_some] at hdd
        split at hdd
        · rename_i xs q2
          cases q3 : atI xs kx with
          | none => simp [q3] at hdd
          | some x0 =>
            cases q4 : de z.2 with
            | none => simp [q3, q4] at hdd
            | some w =>
              cases q5 : g w.2 (.t x0) w.1 with
              | none => simp [q3, q4, q5] at hdd
              | some l =>
                cases q6 : l.tree with
                | none => simp [q3, q4, q5, q6] at hdd
                | some zz =>
                  simp only [q3, q4, q5, q6, Option.bind_some] at hdd
                  split at hdd
                  · rename_i ys q7
                    cases q8 : ixN ys.length kx with
                    | none => simp [q8] at hdd
                    | some m =>
                      simp [q8] at hdd
                      obtain ⟨rfl, rfl⟩ := hdd
                      refine ⟨_, e0, rt σ G H ρ z.1 z.2 _ E q fun v1 G1 H1 P1 => ?_⟩
                      obtain ⟨p, o, f1, g1, f3, f4⟩ := P1.env.own j _ q2
                      rw [e0] at f1; cases f1
                      have rp := P1.rep
                      rw [asInt_inv q1] at rp
                      have hk := Rep.int_inv rp
                      cases o with
                      | lst ws =>
                        obtain ⟨vx, hx1, hx2⟩ := atI_rep (show RepAll X.K fa G1 ws xs from f4) q3
                        refine ⟨a0, ws, kx, vx, rfl, hk, .of f3, hx1, ?_⟩
                        refine rt2 σ G1 H1 z.2 w.1 w.2 _ P1.env q4 fun v2 G2 H2 P2 => ?_
                        have A2 : At X.K fa (Cl σ ρ) G H G2 H2 σ w.2 := ⟨P2.env, P1.aft.trans P2.aft⟩
                        have rv : LRep X.K fa G2 H2 (Cl σ w.2) σ vx (.t x0) := hx2.mono P2.aft.gg
                        refine hg _ _ _ _ _ _ _ _ _ _ _ _ _ ⟨A2, rv, trivial, P2.rep, P2.new.aft P1.aft⟩ q5 fun v3 G3 H3 R => ?_
                        obtain ⟨G4, E4, R4, A4, sm4, _⟩ := toTree R.env R.r1 R.n1 R.aft q6
                        obtain ⟨p2, o2, u1, u2, u3, u4⟩ := E4.own j _ q7
                        rw [e0] at u1; cases u1
                        cases o2 with
                        | lst ws2 =>
                          have u4 : RepAll X.K fa G4 ws2 ys := u4
                          refine ⟨a0, ws2, kx, m, rfl, hk, u3, by rw [u4.length]; exact q8, ?_⟩
                          exact k σ G4 _ ⟨(At.put (c' := .lst (ys.set m zz)) (o' := .lst (ws2.set m v3)) ⟨E4, A4⟩ q7 e0 u3 (u4.set m R4)), Slots.refl⟩
                        | _ => exact (show False from u4).elim
                      | _ => exact (show False from f4).elim
                  · cases hdd
        · cases hdd
  · simp [dAugS, hoo] at hdd
end

/-! ### calls of built-ins -/
section
variable {X : Cx} {fa : Nat → Addr} {e e2 : Expr} {es : List Expr} {pos p : Pos} {d d1 d2 : Den} {x : Str} {id T0 : String} {r : List V → Hp → VK → Prop}
theorem SE.bi1 {g : REnv → L → Option L} (hc : CallR X (.builtin id) r) (hg : Gl X x) (hm : X.mg x = none) (hv : bootBuiltins x = some (.builtin id)) (h : SE X fa e d) (ht : UnT X.K fa (fun x H Q => r [x] H Q) g)
    (hn : x ≠ "__name__") (hdb : (x == ("__debug__" : Str)) = false) (he : starEach (e :: []) X.env = (false, eval e X.env) :: starEach [] X.env) : SE X fa (.Call (.Name x p) [e] [] pos) (den1 g d) :=
  h.un (fun ta pa => pe_callB hc hg hm hv (pa_cons pa pa_nil he) hn hdb he rfl) ht
theorem SE.bi2 {g : REnv → L → L → Option L} (hc : CallR X (.builtin id) r) (hg : Gl X x) (hm : X.mg x = none) (hv : bootBuiltins x = some (.builtin id)) (h : SE X fa e d1) (h2 : SE X fa e2 d2) (ht : OpT X.K fa (fun x y H Q => r [x, y] H Q) g)
    (hn : x ≠ "__name__") (hdb : (x == ("__debug__" : Str)) = false) (he : starEach (e :: [e2]) X.env = (false, eval e X.env) :: starEach [e2] X.env) (he2 : starEach (e2 :: []) X.env = (false, eval e2 X.env) :: starEach [] X.env) (hpl : (backTo pos (starEach [e2] X.env)).any (·.1) = false) : SE X fa (.Call (.Name x p) [e, e2] [] pos) (den2 g d1 d2) :=
  h.two h2 (fun ta tb pa pb => pe_callB hc hg hm hv (pa_cons pa (pa_cons pb pa_nil he2) he) hn hdb he hpl) ht
theorem SE.ty1 {g : REnv → L → Option L} (hc : CallR X (.type T0) r) (hg : Gl X x) (hm : X.mg x = none) (hv : bootBuiltins x = some (.type T0)) (h : SE X fa e d) (ht : UnT X.K fa (fun x H Q => r [x] H Q) g)
    (hn : x ≠ "__name__") (hdb : (x == ("__debug__" : Str)) = false) (he : starEach (e :: []) X.env = (false, eval e X.env) :: starEach [] X.env) : SE X fa (.Call (.Name x p) [e] [] pos) (den1 g d) :=
  h.un (fun ta pa => pe_callTy hc hg hm hv (pa_cons pa pa_nil he) hn hdb he rfl) ht
end

section
variable {X : Cx} {K : PySem.W.Frag} {fa : Nat → Addr}
/-- len -/
def gLen (ρ : REnv) (l : L) : Option L := match l with
  | .t (.tup xs) => some (.t (.int xs.length))
  | .t (.lkl xs) => some (.t (.int xs.length))
  | .t (.str z) => if z.length ≤ line then some (.t (.int z.length)) else none
  | l => (l.lview ρ).map fun xs => .t (.int xs.length)
theorem unt_len : UnT K fa (fun x H Q => ∃ y n, [x] = [y] ∧ LenV K y H n ∧ Q (.int n) H) gLen := by
  intro C0 G0 H0 G H σ ρ v1 l1 l Q O e k
  unfold gLen at e
  split at e
  · rename_i xs
    cases e
    cases (show Rep K fa G v1 _ from O.r1) with
    | tup s a => exact ⟨_, _, rfl, .inr ⟨_, same_sqT O.env.same (.of s), rfl⟩, k _ _ _ (by rw [a.length]; exact O.toAt.int _)⟩
  · rename_i xs
    cases e
    cases (show Rep K fa G v1 _ from O.r1) with
    | lkl s a => exact ⟨_, _, rfl, .inl ⟨_, O.env.same.seq s, rfl⟩, k _ _ _ (by rw [a.length]; exact O.toAt.int _)⟩
  · split at e
    · rename_i z hz
      cases e
      have e1 : v1 = V.str z := Rep.str_inv O.r1
      subst e1
      exact ⟨_, z.length, rfl, ⟨by rw [← line_eq]; exact hz, rfl⟩, k _ _ _ (O.toAt.int _)⟩
    · cases e
  · cases q : l1.lview ρ with
    | none => simp [q] at e
    | some xs =>
      simp [q] at e
      subst e
      obtain ⟨a, vs, rfl, hp, rp⟩ := lview_ok O.env O.r1 q
      exact ⟨_, _, rfl, .inl ⟨_, .of hp, rfl⟩, k _ _ _ (by rw [rp.length]; exact O.toAt.int _)⟩
/-- ints out of trees -/
def asInts : List T → Option (List Int)
  | [] => some []
  | .int i :: xs => (asInts xs).map fun r => i :: r
  | _ :: _ => none
theorem asInts_inv : ∀ {xs : List T} {ns : List Int}, asInts xs = some ns → xs = ns.map T.int
  | [], ns, h => by cases h; rfl
  | x :: xs, ns, h => by
    cases x with
    | int i =>
      cases q : asInts xs with
      | none => simp [asInts, q] at h
      | some r =>
        simp [asInts, q] at h
        subst h
        rw [asInts_inv q]
        rfl
    | _ => cases h
theorem asInts_map (ns : List Int) : asInts (ns.map T.int) = some ns := by
  induction ns with
  | nil => rfl
  | cons n ns ih => simp [asInts, ih]
def asBls : List T → Option (List Bool)
  | [] => some []
  | .bl i :: xs => (asBls xs).map fun r => i :: r
  | _ :: _ => none
theorem asBls_inv : ∀ {xs : List T} {ns : List Bool}, asBls xs = some ns → xs = ns.map T.bl
  | [], ns, h => by cases h; rfl
  | x :: xs, ns, h => by
    cases x with
    | bl i =>
      cases q : asBls xs with
      | none => simp [asBls, q] at h
      | some r =>
        simp [asBls, q] at h
        subst h
        rw [asBls_inv q]
        rfl
    | _ => cases h
theorem asBls_map (ns : List Bool) : asBls (ns.map T.bl) = some ns := by
  induction ns with
  | nil => rfl
  | cons n ns ih => simp [asBls, ih]
theorem ints_at {C0 : Addr → Prop} {G0 H0 G H : Hp} {σ : L2.St} {ρ : REnv} {v : V} {l : L} {ns : List Int} (O : Ops1 K fa C0 G0 H0 G H σ ρ v l) (h : (l.lview ρ).bind asInts = some ns) : ∃ a, v = .ref a ∧ SqL K H a (ns.map V.int) := by
  cases q : l.lview ρ with
  | none => simp [q] at h
  | some xs =>
    simp [q] at h
    obtain ⟨a, vs, rfl, hp, rp⟩ := lview_ok O.env O.r1 q
    rw [asInts_inv h] at rp
    rw [RepAll.ints rp] at hp
    exact ⟨a, rfl, .of hp⟩
theorem bls_at {C0 : Addr → Prop} {G0 H0 G H : Hp} {σ : L2.St} {ρ : REnv} {v : V} {l : L} {ns : List Bool} (O : Ops1 K fa C0 G0 H0 G H σ ρ v l) (h : (l.lview ρ).bind asBls = some ns) : ∃ a, v = .ref a ∧ SqL K H a (ns.map V.bl) := by
  cases q : l.lview ρ with
  | none => simp [q] at h
  | some xs =>
    simp [q] at h
    obtain ⟨a, vs, rfl, hp, rp⟩ := lview_ok O.env O.r1 q
    rw [asBls_inv h] at rp
    rw [RepAll.bls rp] at hp
    exact ⟨a, rfl, .of hp⟩
def gSum (ρ : REnv) (l : L) : Option L := ((l.lview ρ).bind asInts).map fun ns => .t (.int ns.sum)
theorem unt_sum : UnT K fa (fun x H Q => rSum K [x] H Q) gSum := by
  intro C0 G0 H0 G H σ ρ v1 l1 l Q O e k
  cases q : (l1.lview ρ).bind asInts with
  | none => simp [gSum, q] at e
  | some ns =>
    simp [gSum, q] at e
    subst e
    obtain ⟨a, rfl, s⟩ := ints_at O q
    exact ⟨a, ns, rfl, s, k _ _ _ (O.toAt.int _)⟩
def gAll (ρ : REnv) (l : L) : Option L := ((l.lview ρ).bind asBls).map fun bs => .t (.bl (bs.all id))
def gAny (ρ : REnv) (l : L) : Option L := ((l.lview ρ).bind asBls).map fun bs => .t (.bl (bs.any id))
theorem unt_all : UnT K fa (fun x H Q => rAll K [x] H Q) gAll := by
  intro C0 G0 H0 G H σ ρ v1 l1 l Q O e k
  cases q : (l1.lview ρ).bind asBls with
  | none => simp [gAll, q] at e
  | some ns =>
    simp only [gAll, q, Option.map_some, Option.some.injEq] at e
    subst e
    obtain ⟨a, rfl, s⟩ := bls_at O q
    exact ⟨a, ns, rfl, s, k _ _ _ (O.toAt.bl _)⟩
theorem unt_any : UnT K fa (fun x H Q => rAny K [x] H Q) gAny := by
  intro C0 G0 H0 G H σ ρ v1 l1 l Q O e k
  cases q : (l1.lview ρ).bind asBls with
  | none => simp [gAny, q] at e
  | some ns =>
    simp only [gAny, q, Option.map_some, Option.some.injEq] at e
    subst e
    obtain ⟨a, rfl, s⟩ := bls_at O q
    exact ⟨a, ns, rfl, s, k _ _ _ (O.toAt.bl _)⟩
/-- the greatest, the least of a list of ints -/
def maxI : List Int → Option Int
  | [] => none
  | x :: xs => match maxI xs with
    | none => some x
    | some m => some (if x < m then m else x)
def minI : List Int → Option Int
  | [] => none
  | x :: xs => match minI xs with
    | none => some x
    | some m => some (if m < x then m else x)
theorem maxI_spec : ∀ {ns : List Int} {m : Int}, maxI ns = some m → m ∈ ns ∧ ∀ y ∈ ns, y ≤ m
  | [], m, h => by cases h
  | x :: xs, m, h => by
    cases q : maxI xs with
    | none =>
      cases xs with
      | nil => simp [maxI] at h; subst h; simp
      | cons y ys => simp [maxI] at q; split at q <;> cases q
    | some k =>
      simp [maxI, q] at h
      obtain ⟨h1, h2⟩ := maxI_spec q
      by_cases hx : x < k
      · rw [if_pos hx] at h; subst h
        refine ⟨List.mem_cons_of_mem _ h1, fun y hy => ?_⟩
        rcases List.mem_cons.mp hy with rfl | hy
        · omega
        · exact h2 y hy
      · rw [if_neg hx] at h; subst h
        refine ⟨List.mem_cons_self, fun y hy => ?_⟩
        rcases List.mem_cons.mp hy with rfl | hy
        · omega
        · have := h2 y hy; omega
theorem minI_spec : ∀ {ns : List Int} {m : Int}, minI ns = some m → m ∈ ns ∧ ∀ y ∈ ns, m ≤ y
  | [], m, h => by cases h
  | x :: xs, m, h => by
    cases q : minI xs with
    | none =>
      cases xs with
      | nil => simp [minI] at h; subst h; simp
      | cons y ys => simp [minI] at q; split at q <;> cases q
    | some k =>
      simp [minI, q] at h
      obtain ⟨h1, h2⟩ := minI_spec q
      by_cases hx : k < x
      · rw [if_pos hx] at h; subst h
        refine ⟨List.mem_cons_of_mem _ h1, fun y hy => ?_⟩
        rcases List.mem_cons.mp hy with rfl | hy
        · omega
        · exact h2 y hy
      · rw [if_neg hx] at h; subst h
        refine ⟨List.mem_cons_self, fun y hy => ?_⟩
        rcases List.mem_cons.mp hy with rfl | hy
        · omega
        · have := h2 y hy; omega
def gMaxL (ρ : REnv) (l : L) : Option L := ((l.lview ρ).bind asInts).bind fun ns => (maxI ns).map fun m => .t (.int m)
def gMinL (ρ : REnv) (l : L) : Option L := ((l.lview ρ).bind asInts).bind fun ns => (minI ns).map fun m => .t (.int m)
theorem unt_maxL : UnT K fa (fun x H Q => rMax K [x] H Q) gMaxL := by
  intro C0 G0 H0 G H σ ρ v1 l1 l Q O e k
  cases q : (l1.lview ρ).bind asInts with
  | none => simp [gMaxL, q] at e
  | some ns =>
    cases q1 : maxI ns with
    | none => simp [gMaxL, q, q1] at e
    | some m =>
      simp [gMaxL, q, q1] at e
      subst e
      obtain ⟨a, rfl, s⟩ := ints_at O q
      obtain ⟨h1, h2⟩ := maxI_spec q1
      refine ⟨a, ns, rfl, s, List.length_pos_of_mem h1, fun m' h3 h4 => ?_⟩
      have e' : m' = m := Int.le_antisymm (h2 m' h3) (h4 m h1)
      subst e'
      exact k _ _ _ (O.toAt.int _)
theorem unt_minL : UnT K fa (fun x H Q => rMin K [x] H Q) gMinL := by
  intro C0 G0 H0 G H σ ρ v1 l1 l Q O e k
  cases q : (l1.lview ρ).bind asInts with
  | none => simp [gMinL, q] at e
  | some ns =>
    cases q1 : minI ns with
    | none => simp [gMinL, q, q1] at e
    | some m =>
      simp [gMinL, q, q1] at e
      subst e
      obtain ⟨a, rfl, s⟩ := ints_at O q
      obtain ⟨h1, h2⟩ := minI_spec q1
      refine ⟨a, ns, rfl, s, List.length_pos_of_mem h1, fun m' h3 h4 => ?_⟩
      have e' : m' = m := Int.le_antisymm (h4 m h1) (h2 m' h3)
      subst e'
      exact k _ _ _ (O.toAt.int _)
def gMax2 (_ : REnv) (l1 l2 : L) : Option L := match l1, l2 with
  | .t (.int i), .t (.int j) => some (.t (.int (if j > i then j else i)))
  | _, _ => none
def gMin2 (_ : REnv) (l1 l2 : L) : Option L := match l1, l2 with
  | .t (.int i), .t (.int j) => some (.t (.int (if j < i then j else i)))
  | _, _ => none
theorem opt_max2 : OpT K fa (fun x y H Q => ∃ i j, [x, y] = [V.int i, V.int j] ∧ Q (.int (if j > i then j else i)) H) gMax2 := by
  intro C0 G0 H0 G H σ ρ v1 v2 l1 l2 l Q O e k
  unfold gMax2 at e
  split at e
  · cases e
    exact ⟨_, _, by rw [Rep.int_inv O.r1, Rep.int_inv O.r2], k _ _ _ (O.toAt.int _)⟩
  · cases e
theorem opt_min2 : OpT K fa (fun x y H Q => ∃ i j, [x, y] = [V.int i, V.int j] ∧ Q (.int (if j < i then j else i)) H) gMin2 := by
  intro C0 G0 H0 G H σ ρ v1 v2 l1 l2 l Q O e k
  unfold gMin2 at e
  split at e
  · cases e
    exact ⟨_, _, by rw [Rep.int_inv O.r1, Rep.int_inv O.r2], k _ _ _ (O.toAt.int _)⟩
  · cases e
def gAbs (_ : REnv) (l : L) : Option L := match l with
  | .t (.int i) => some (.t (.int (if i < 0 then -i else i)))
  | _ => none
theorem unt_abs : UnT K fa (fun x H Q => ∃ i, [x] = [V.int i] ∧ Q (.int (if i < 0 then -i else i)) H) gAbs := by
  intro C0 G0 H0 G H σ ρ v1 l1 l Q O e k
  unfold gAbs at e
  split at e
  · cases e
    exact ⟨_, by rw [Rep.int_inv O.r1], k _ _ _ (O.toAt.int _)⟩
  · cases e
def gInt (_ : REnv) (l : L) : Option L := match l with
  | .t (.int i) => some (.t (.int i))
  | .t (.bl b) => some (.t (.int (if b then 1 else 0)))
  | _ => none
theorem unt_int : UnT K fa (fun x H Q => (∃ i, [x] = [V.int i] ∧ Q (.int i) H) ∨ ∃ k, [x] = [V.bl k] ∧ Q (.int (if k then 1 else 0)) H) gInt := by
  intro C0 G0 H0 G H σ ρ v1 l1 l Q O e k
  unfold gInt at e
  split at e
  · cases e
    exact .inl ⟨_, by rw [Rep.int_inv O.r1], k _ _ _ (O.toAt.int _)⟩
  · cases e
    exact .inr ⟨_, by rw [Rep.bl_inv O.r1], k _ _ _ (O.toAt.int _)⟩
  · cases e
/-- list(x), tuple(x) -/
def gList (ρ : REnv) (l : L) : Option L := match l with
  | .t (.tup xs) => some (.own (.lst xs))
  | .t (.lkl xs) => some (.own (.lst xs))
  | l => (l.lview ρ).map fun xs => .own (.lst xs)
theorem unt_list : UnT K fa (fun x H Q => ∃ p ys, [x] = [V.ref p] ∧ (SqL K H p ys ∨ SqT K H p ys) ∧ ∀ l, H l = none → Q (.ref l) (upd H l (.lst ys))) gList := by
  intro C0 G0 H0 G H σ ρ v1 l1 l Q O e k
  unfold gList at e
  split at e
  · rename_i xs
    cases e
    cases (show Rep K fa G v1 _ from O.r1) with
    | tup s a => exact ⟨_, _, rfl, .inr (same_sqT O.env.same (.of s)), fun l hl => k _ _ _ (O.toAt.lstR hl a)⟩
  · rename_i xs
    cases e
    cases (show Rep K fa G v1 _ from O.r1) with
    | lkl s a => exact ⟨_, _, rfl, .inl (O.env.same.seq s), fun l hl => k _ _ _ (O.toAt.lstR hl a)⟩
  · cases q : l1.lview ρ with
    | none => simp [q] at e
    | some xs =>
      simp [q] at e
      subst e
      obtain ⟨a, vs, rfl, hp, rp⟩ := lview_ok O.env O.r1 q
      exact ⟨_, _, rfl, .inl (.of hp), fun l hl => k _ _ _ (O.toAt.lstR hl rp)⟩
def gTuple (ρ : REnv) (l : L) : Option L := match l with
  | .t (.tup xs) => some (.t (.tup xs))
  | .t (.lkl xs) => some (.t (.tup xs))
  | l => (l.lview ρ).map fun xs => .t (.tup xs)
theorem unt_tuple : UnT K fa (fun x H Q => ∃ p ys, [x] = [V.ref p] ∧ ((SqL K H p ys ∧ ∀ l, H l = none → Q (.ref l) (upd H l (.tup ys))) ∨ (SqT K H p ys ∧ Q (.ref p) H))) gTuple := by
  intro C0 G0 H0 G H σ ρ v1 l1 l Q O e k
  unfold gTuple at e
  split at e
  · rename_i xs
    cases e
    cases (show Rep K fa G v1 _ from O.r1) with
    | tup s a => exact ⟨_, _, rfl, .inr ⟨same_sqT O.env.same (.of s), k _ _ _ (O.toAt.tr (.tup s a))⟩⟩
  · rename_i xs
    cases e
    cases (show Rep K fa G v1 _ from O.r1) with
    | lkl s a => exact ⟨_, _, rfl, .inl ⟨O.env.same.seq s, fun l hl => k _ _ _ (O.toAt.tupR hl a)⟩⟩
  · cases q : l1.lview ρ with
    | none => simp [q] at e
    | some xs =>
      simp [q] at e
      subst e
      obtain ⟨a, vs, rfl, hp, rp⟩ := lview_ok O.env O.r1 q
      exact ⟨_, _, rfl, .inl ⟨.of hp, fun l hl => k _ _ _ (O.toAt.tupR hl rp)⟩⟩
/-- sorted(ints) -/
def insI (x : Int) : List Int → List Int
  | [] => [x]
  | y :: ys => if x ≤ y then x :: y :: ys else y :: insI x ys
def sortI : List Int → List Int
  | [] => []
  | x :: xs => insI x (sortI xs)
theorem insI_perm (x : Int) : ∀ ys : List Int, (insI x ys).Perm (x :: ys)
  | [] => .refl _
  | y :: ys => by
    unfold insI
    split
    · exact .refl _
    · exact ((insI_perm x ys).cons y).trans (List.Perm.swap x y ys)
theorem sortI_perm : ∀ xs : List Int, (sortI xs).Perm xs
  | [] => .refl _
  | x :: xs => (insI_perm x _).trans ((sortI_perm xs).cons x)
theorem insI_sorted (x : Int) : ∀ {ys : List Int}, ys.Pairwise (· ≤ ·) → (insI x ys).Pairwise (· ≤ ·)
  | [], _ => by simp [insI]
  | y :: ys, h => by
    unfold insI
    obtain ⟨h1, h2⟩ := List.pairwise_cons.mp h
    split
    · rename_i hx
      refine List.pairwise_cons.mpr ⟨fun z hz => ?_, h⟩
      rcases List.mem_cons.mp hz with rfl | hz
      · exact hx
      · have := h1 z hz; omega
    · rename_i hx
      refine List.pairwise_cons.mpr ⟨fun z hz => ?_, insI_sorted x h2⟩
      rcases List.mem_cons.mp ((insI_perm x ys).mem_iff.mp hz) with rfl | hz
      · omega
      · exact h1 z hz
theorem sortI_sorted : ∀ xs : List Int, (sortI xs).Pairwise (· ≤ ·)
  | [] => .nil
  | x :: xs => insI_sorted x (sortI_sorted xs)
theorem sorted_unique : ∀ {xs ys : List Int}, xs.Perm ys → xs.Pairwise (· ≤ ·) → ys.Pairwise (· ≤ ·) → xs = ys
  | [], ys, p, _, _ => by rw [List.nil_perm.mp p]
  | x :: xs, [], p, _, _ => by have := p.length_eq; simp at this
  | x :: xs, y :: ys, p, h1, h2 => by
    obtain ⟨a1, a2⟩ := List.pairwise_cons.mp h1
    obtain ⟨b1, b2⟩ := List.pairwise_cons.mp h2
    have e : x = y := by
      have m1 : x ∈ y :: ys := p.mem_iff.mp List.mem_cons_self
      have m2 : y ∈ x :: xs := p.mem_iff.mpr List.mem_cons_self
      rcases List.mem_cons.mp m1 with z | z
      · exact z
      · rcases List.mem_cons.mp m2 with w | w
        · exact w.symm
        · have := b1 x z
          have := a1 y w
          omega
    subst e
    rw [sorted_unique (List.Perm.cons_inv p) a2 b2]
def gSortI (ρ : REnv) (l : L) : Option L := ((l.lview ρ).bind asInts).map fun ns => .own (.lst ((sortI ns).map T.int))
theorem unt_sortI : UnT K fa (fun x H Q => rSortedI K [x] H Q) gSortI := by
  intro C0 G0 H0 G H σ ρ v1 l1 l Q O e k
  cases q : (l1.lview ρ).bind asInts with
  | none => simp [gSortI, q] at e
  | some ns =>
    simp [gSortI, q] at e
    subst e
    obtain ⟨a, rfl, s⟩ := ints_at O q
    refine ⟨a, ns, rfl, s, fun ns' p hp hs hn => ?_⟩
    rw [sorted_unique (hp.trans (sortI_perm ns).symm) hs (sortI_sorted ns)]
    exact k _ _ _ (O.toAt.lstR hn (.of_ints _))
end
end LW
namespace LW
open PySem PySem.Spec PyProof.Rows L2

/-! ### a def's body -/
def finP (fl : Fl) (ρ : REnv) : Option L := match fl with
  | .nx => some (.t .non)
  | .ret (.t x) => some (.t x)
  | .ret (.own c) => some (.own c)
  | .ret (.ref i) => (match ρ[i]? with
    | some (.own c) => some (.own c)
    | _ => none)
  | _ => none
def bodyP (n m : Nat) (d : DenS) (ts : List T) : Option L := if ts.length = n then (d (ts.map L.t ++ List.replicate (m - n) L.un)).bind fun p => finP p.1 p.2 else none
def bodyF (n m : Nat) (as : List Nat) (d : DenS) (xs ts : List T) : Option (L × List T) := if ts.length + 1 = n && !as.contains 0 then (d (L.own (.lst xs) :: (ts.map L.t ++ List.replicate (m - n) L.un))).bind fun (p : Fl × REnv) => match (p.2 : List L)[0]? with
  | some (L.own (OC.lst ys)) => (match p.1 with
    | .ret (.ref 0) => none
    | fl => (finP fl p.2).map fun r => (r, ys))
  | _ => none else none
section
variable {P : Program} {w : World} {K : PySem.W.Frag} {mg : Str → Option Value} {base : Heap} {fa : Nat → Addr} {k : Nat} {x qual : Str} {st : Stmt} {f : Addr} {fd : FuncData} {N ps : List Str} {as : List Nat} {d : DenS}
theorem env_pad {G H : Hp} {σ : L2.St} {ρ : REnv} (E : EnvOk K fa G H σ ρ) (m : Nat) : EnvOk K fa G H (σ ++ List.replicate m none) (ρ ++ List.replicate m L.un) := by
  have key : ∀ (i : Nat) (l : L), l ≠ .un → (ρ ++ List.replicate m L.un)[i]? = some l → ρ[i]? = some l := fun i l n e => by
    by_cases hi : i < ρ.length
    · rwa [List.getElem?_append_left hi] at e
    · rw [List.getElem?_append_right (by omega)] at e
      rw [List.getElem?_replicate] at e
      split at e
      · cases e; exact absurd rfl n
      · cases e
  have up : ∀ (i : Nat) (v : Option V), σ[i]? = some v → (σ ++ List.replicate m none)[i]? = some v := fun i v e => by
    rw [List.getElem?_append_left (List.getElem?_eq_some_iff.mp e).1]
    exact e
  refine ⟨E.same, by simp [E.len], fun i y e => ?_, fun i c e => ?_, fun i j c c' a e1 e2 e3 e4 => ?_⟩
  · obtain ⟨v, h1, h2⟩ := E.t i y (key i _ (fun z => by cases z) e)
    exact ⟨v, up _ _ h1, h2⟩
  · obtain ⟨a, o, h1, h2⟩ := E.own i c (key i _ (fun z => by cases z) e)
    exact ⟨a, o, up _ _ h1, h2⟩
  · have f1 := key i _ (fun z => by cases z) e1
    have f2 := key j _ (fun z => by cases z) e2
    obtain ⟨a1, o1, g1, _⟩ := E.own i c f1
    obtain ⟨a2, o2, g2, _⟩ := E.own j c' f2
    have g1' := up _ _ g1
    have g2' := up _ _ g2
    rw [e3] at g1'
    rw [e4] at g2'
    cases g1'
    cases g2'
    exact E.inj i j c c' a f1 f2 g1 g2
theorem cl_pad {σ : L2.St} {ρ : REnv} {m : Nat} {a : Addr} (hl : ρ.length = σ.length) (h : Cl (σ ++ List.replicate m none) (ρ ++ List.replicate m L.un) a) : Cl σ ρ a := by
  obtain ⟨i, c, e1, e2⟩ := h
  by_cases hi : i < ρ.length
  · rw [List.getElem?_append_left hi] at e1
    rw [List.getElem?_append_left (by omega)] at e2
    exact ⟨i, c, e1, e2⟩
  · rw [List.getElem?_append_right (by omega), List.getElem?_replicate] at e1
    split at e1 <;> cases e1
/-- what the body hands out, its own objects being new -/
theorem fin_rep {G H : Hp} {C0 : Addr → Prop} {σ0 : L2.St} {ρ' : REnv} {fl : Fl} {r : L} {D : Ends} {Q : VK} (e : finP fl ρ' = some r) (hD : D = { nx := fun _ H' => Q .non H', rt := Q })
    (hc : ∀ v σ' G' H' r, AtS K fa C0 G H σ0 as G' H' σ' ρ' → LRep K fa G' H' (fun _ => False) σ' v r → NewL H v r → (∀ i, r ≠ .ref i) → finP fl ρ' = some r → Q v H')
    (own0 : ∀ σ' G' H' (i : Nat) (c : OC) (a : Addr), AtS K fa C0 G H σ0 as G' H' σ' ρ' → fl = .ret (.ref i) → ρ'[i]? = some (.own c) → σ'[i]? = some (some (.ref a)) → H a = none) : Cont K fa C0 G H σ0 as D fl ρ' := by
  subst hD
  cases fl with
  | nx =>
    cases e
    exact fun σ' G' H' A => hc .non σ' G' H' (.t .non) A (show Rep K fa G' .non .non from Rep.non) trivial (fun i z => by cases z) rfl
  | brk => cases e
  | cont => cases e
  | ret l =>
    intro v σ' G' H' A rl nl
    cases l with
    | un => cases e
    | t y => cases e; exact hc v σ' G' H' (.t y) A rl nl (fun i z => by cases z) rfl
    | own c =>
      cases e
      obtain ⟨p, o, rfl, g, n, hh, rr⟩ := rl
      exact hc _ σ' G' H' (.own c) A ⟨p, o, rfl, g, fun z => z, hh, rr⟩ nl (fun i z => by cases z) rfl
    | ref i =>
      have e0 := e
      simp only [finP] at e
      split at e
      · rename_i c q
        cases e
        obtain ⟨p, o, f1, f2, f3, f4⟩ := A.env.own i c q
        have rl : σ'[i]? = some (some v) := rl
        rw [f1] at rl
        cases rl
        exact hc _ σ' G' H' (.own c) A ⟨p, o, rfl, f2, fun z => z, f3, f4⟩ (fun a e => by cases e; exact own0 σ' G' H' i c p A rfl q f1) (fun i z => by cases z) e0
      · cases e
theorem fn_pureK (F : Fun K x qual st f fd) (S : FnScope N ps (defScope st))
    (h : ∀ (cdv : Value) (A : Around) (outer : List Env) (s : Shared) (H : Hp) (E : XK), Room k (A.deeper (envOfC qual (defScope st) s.heap.objs.size f cdv)) →
      SSs (cxOf CX0 P w K mg base N qual (defScope st) f cdv A outer s H E).nox fa (defBody st) as d) : FnOk P w K mg base CX0 (k + 1) f fd ps (spM K fa ps.length (pureF (bodyP ps.length N.length d))) := by
  refine F.ok S (fun vs H Q E q => q.1) (fun cdv A outer s H vs Q E hr q => ?_)
  obtain ⟨t, pt, rt⟩ := h cdv A outer s H E hr
  obtain ⟨hn, G, ls, r, ls', E0, hm, kk⟩ := q
  refine ⟨t, pt, ?_⟩
  cases q1 : allT ls with
  | none => simp [pureF, q1] at hm
  | some ts =>
    have hls := allT_inv q1
    subst hls
    cases q2 : bodyP ps.length N.length d ts with
    | none => simp [pureF, q1, q2] at hm
    | some r' =>
      simp [pureF, q1, q2] at hm
      obtain ⟨rfl, rfl⟩ := hm
      unfold bodyP at q2
      split at q2
      · rename_i hlen
        cases q3 : d (ts.map L.t ++ List.replicate (N.length - ps.length) L.un) with
        | none => simp [q3] at q2
        | some pp =>
          obtain ⟨fl, ρ'⟩ := pp
          simp [q3] at q2
          have E1 := env_pad E0 (N.length - ps.length)
          have hst : L2.start N vs = vs.map some ++ List.replicate (N.length - ps.length) none := by unfold L2.start; rw [hn]
          rw [hst]
          have nocl : ∀ a, ¬ Cl (vs.map some ++ List.replicate (N.length - ps.length) none) (ts.map L.t ++ List.replicate (N.length - ps.length) L.un) a := fun a z => cl_ts (cl_pad E0.len z)
          refine rt _ G H _ fl ρ' _ E1 q3 (fin_rep q2 rfl (fun v σ' G' H' r2 A rr nn nr e2 => ?_) fun σ' G' H' i c a A e1 e2 e3 => ?_)
          · rw [q2] at e2
            cases e2
            have ck : ∀ b, Cl (vs.map some) (ts.map L.t) b → False := fun b z => cl_ts z
            refine kk v G' H' ⟨⟨A.aft.gg, fun a o e n => A.aft.keep a o e (nocl a), fun a o e n g => A.aft.gn a o e (nocl a) g, A.aft.there, fun a z => .inl z⟩, E0.carry A.aft A.env.same fun b z => (ck b z).elim, ?_, nn⟩
            cases r' with
            | un => exact rr
            | t y => exact rr
            | own c =>
              obtain ⟨p, o, rfl, g, n, hh, ro⟩ := rr
              exact ⟨p, o, rfl, g, fun z => ck p z, hh, ro⟩
            | ref i => exact absurd rfl (nr i)
          · rcases A.aft.cs a ⟨i, c, e2, e3⟩ with z | z
            · exact (nocl a z).elim
            · exact z
      · cases q2
theorem fn_pure (F : Fun K x qual st f fd) (S : FnScope N ps (defScope st)) (hmg : mg x = some (.ref f)) (hb : Binds K fd ps [])
    (h : ∀ (cdv : Value) (A : Around) (outer : List Env) (s : Shared) (H : Hp) (E : XK), Room k (A.deeper (envOfC qual (defScope st) s.heap.objs.size f cdv)) →
      SSs (cxOf CX0 P w K mg base N qual (defScope st) f cdv A outer s H E).nox fa (defBody st) as d) : Fn P w K mg base fa (k + 1) x ps.length (pureF (bodyP ps.length N.length d)) :=
  ⟨f, fd, ps, fn_pureK F S h, hmg, F.kp, hb⟩
theorem fn_feed (F : Fun K x qual st f fd) (S : FnScope N ps (defScope st)) (hmg : mg x = some (.ref f)) (hb : Binds K fd ps [])
    (h : ∀ (cdv : Value) (A : Around) (outer : List Env) (s : Shared) (H : Hp) (E : XK), Room k (A.deeper (envOfC qual (defScope st) s.heap.objs.size f cdv)) →
      SSs (cxOf CX0 P w K mg base N qual (defScope st) f cdv A outer s H E).nox fa (defBody st) as d) : Fn P w K mg base fa (k + 1) x ps.length (feedF (bodyF ps.length N.length as d)) := by
  refine ⟨f, fd, ps, F.ok S (fun vs H Q E q => q.1) (fun cdv A outer s H vs Q E hr q => ?_), hmg, F.kp, hb⟩
  obtain ⟨t, pt, rt⟩ := h cdv A outer s H E hr
  obtain ⟨hn, G, ls, r, ls', E0, hm, kk⟩ := q
  refine ⟨t, pt, ?_⟩
  unfold feedF at hm
  split at hm
  · rename_i xs ls
    cases q1 : allT ls with
    | none => simp [q1] at hm
    | some ts =>
      have hls := allT_inv q1
      subst hls
      cases q2 : bodyF ps.length N.length as d xs ts with
      | none => simp [q1, q2] at hm
      | some r' =>
        obtain ⟨r0, ys⟩ := r'
        simp [q1, q2] at hm
        obtain ⟨rfl, rfl⟩ := hm
        unfold bodyF at q2
        split at q2
        · rename_i hlen
          simp only [Bool.and_eq_true, decide_eq_true_eq, Bool.not_eq_true', List.contains_eq_mem, decide_eq_false_iff_not] at hlen
          cases q3 : d (L.own (.lst xs) :: (ts.map L.t ++ List.replicate (N.length - ps.length) L.un)) with
          | none => simp [q3] at q2
          | some pp =>
            obtain ⟨fl, ρ'⟩ := pp
            simp only [q3, Option.bind_some] at q2
            split at q2
            · rename_i ys' q4
              have fin : finP fl ρ' = some r0 ∧ ys' = ys ∧ fl ≠ .ret (.ref 0) := by
                split at q2
                · cases q2
                · rename_i fl2 hne
                  cases q5 : finP fl ρ' with
                  | none => simp [q5] at q2
                  | some r3 =>
                    simp [q5] at q2
                    obtain ⟨rfl, rfl⟩ := q2
                    exact ⟨rfl, rfl, hne⟩
              obtain ⟨fin, rfl, hne⟩ := fin
              have E1 := env_pad E0 (N.length - ps.length)
              have hst : L2.start N vs = vs.map some ++ List.replicate (N.length - ps.length) none := by unfold L2.start; rw [hn]
              rw [hst]
              obtain ⟨a0, o0, e0, g0, h0, r00⟩ := E0.own 0 (.lst xs) rfl
              have cl1 : ∀ a, Cl (vs.map some ++ List.replicate (N.length - ps.length) none) (L.own (.lst xs) :: ts.map L.t ++ List.replicate (N.length - ps.length) L.un) a → a = a0 := fun a z => by
                obtain ⟨i, c, f1, f2⟩ := cl_pad E0.len z
                cases i with
                | zero => rw [e0] at f2; cases f2; rfl
                | succ i =>
                  cases vs with
                  | nil => simp at f2
                  | cons v0 vs => exact (cl_ts (σ := vs.map some) ⟨i, c, f1, by simpa using f2⟩).elim
              have cl2 : ∀ (l : L) a, Cl (vs.map some) (l :: ts.map L.t) a → a = a0 := fun l a z => by
                obtain ⟨i, c, f1, f2⟩ := z
                cases i with
                | zero => rw [e0] at f2; cases f2; rfl
                | succ i =>
                  cases vs with
                  | nil => simp at f2
                  | cons v0 vs => exact (cl_ts (σ := vs.map some) ⟨i, c, f1, by simpa using f2⟩).elim
              have hE0 : (vs.map some ++ List.replicate (N.length - ps.length) (none : Option V))[0]? = some (some (.ref a0)) := by
                rw [List.getElem?_append_left (List.getElem?_eq_some_iff.mp e0).1]; exact e0
              refine rt _ G H _ fl ρ' _ E1 q3 (fin_rep fin rfl (fun v σ' G' H' r2 A rr nn nr e2 => ?_) fun σ' G' H' i c a A e1 e2 e3 => ?_)
              · rw [fin] at e2
                cases e2
                have s0 : σ'[0]? = some (some (.ref a0)) := (A.slots.keep 0 hlen.2).trans hE0
                obtain ⟨a1, o1, u1, u2, u3, u4⟩ := A.env.own 0 _ q4
                rw [s0] at u1; cases u1
                have mem0 : ∀ (l : OC), Cl (vs.map some) (L.own l :: ts.map L.t) a0 := fun l => ⟨0, l, rfl, e0⟩
                have EE : EnvOk K fa G' H' (vs.map some) (L.own (.lst ys') :: ts.map L.t) := by
                  refine ⟨A.env.same, by have := E0.len; simpa using this, fun i y e => ?_, fun i c e => ?_, fun i j c c' b e1 e2 e3 e4 => ?_⟩
                  · cases i with
                    | zero => cases e
                    | succ i =>
                      obtain ⟨v, h1, h2⟩ := E0.t (i + 1) y e
                      exact ⟨v, h1, h2.mono A.aft.gg⟩
                  · cases i with
                    | zero => cases e; exact ⟨a0, o1, e0, u2, u3, u4⟩
                    | succ i =>
                      exfalso
                      have e : (ts.map L.t)[i]? = some (.own c) := e
                      rw [List.getElem?_map] at e
                      cases q : ts[i]? <;> rw [q] at e <;> cases e
                  · have key : ∀ (i : Nat) (c : OC), (L.own (.lst ys') :: ts.map L.t)[i]? = some (.own c) → i = 0 := fun i c e => by
                      cases i with
                      | zero => rfl
                      | succ i =>
                        exfalso
                        have e : (ts.map L.t)[i]? = some (.own c) := e
                        rw [List.getElem?_map] at e
                        cases q : ts[i]? <;> rw [q] at e <;> cases e
                    rw [key i c e1, key j c' e2]
                refine kk v G' H' ⟨⟨A.aft.gg, fun a o e n => A.aft.keep a o e fun z => n (by rw [cl1 a z]; exact mem0 _), fun a o e n g => A.aft.gn a o e (fun z => n (by rw [cl1 a z]; exact mem0 _)) g, A.aft.there, fun a z => .inl (by rw [cl2 _ a z]; exact mem0 _)⟩, EE, ?_, nn⟩
                cases r0 with
                | un => exact rr
                | t y => exact rr
                | own c =>
                  obtain ⟨p, o, rfl, g, n, hh, ro⟩ := rr
                  refine ⟨p, o, rfl, g, fun z => ?_, hh, ro⟩
                  have : H p = none := nn p rfl
                  rw [cl2 _ p z] at this
                  rw [this] at h0; cases h0
                | ref i => exact absurd rfl (nr i)
              · rcases A.aft.cs a ⟨i, c, e2, e3⟩ with z | z
                · have ha := cl1 a z
                  subst ha
                  have s0 : σ'[0]? = some (some (.ref a)) := (A.slots.keep 0 hlen.2).trans hE0
                  have : i = 0 := A.env.inj i 0 c _ a e2 q4 e3 s0
                  subst this
                  exact absurd e1 hne
                · exact z
            · cases q2
        · cases q2
  · cases hm
end
end LW
namespace LW
open PySem PySem.Spec PyProof.Rows L2

/-! ### isinstance(x, T) -/
def isiB (n : String) (x : T) : Option Bool :=
  match n with
  | "list" => (match x with | .lst _ => some true | .lkl _ => some true | .fn _ => none | .dic _ _ _ => none | .ins _ _ => none | _ => some false)
  | "tuple" => (match x with | .tup _ => some true | .fn _ => none | .dic _ _ _ => none | .ins _ _ => none | _ => some false)
  | "int" => (match x with | .int _ => some true | .bl _ => some true | .fn _ => none | .dic _ _ _ => none | .ins _ _ => none | _ => some false)
  | "bool" => (match x with | .bl _ => some true | .fn _ => none | .dic _ _ _ => none | .ins _ _ => none | _ => some false)
  | "str" => (match x with | .str _ => some true | .fn _ => none | .dic _ _ _ => none | .ins _ _ => none | _ => some false)
  | _ => none
def tyN : T → String
  | .non => "NoneType"
  | .bl _ => "bool"
  | .int _ => "int"
  | .str _ => "str"
  | .lst _ => "list"
  | .tup _ => "tuple"
  | .lkl _ => "list"
  | .fn _ => ""
  | .dic _ _ _ => "dict"
  | .ins _ _ => ""
theorem kB_list : kitB "NoneType" "list" = some false ∧ kitB "bool" "list" = some false ∧ kitB "int" "list" = some false ∧ kitB "str" "list" = some false ∧ kitB "list" "list" = some true ∧ kitB "tuple" "list" = some false := by decide +kernel
theorem kB_tuple : kitB "NoneType" "tuple" = some false ∧ kitB "bool" "tuple" = some false ∧ kitB "int" "tuple" = some false ∧ kitB "str" "tuple" = some false ∧ kitB "list" "tuple" = some false ∧ kitB "tuple" "tuple" = some true := by decide +kernel
theorem kB_int : kitB "NoneType" "int" = some false ∧ kitB "bool" "int" = some true ∧ kitB "int" "int" = some true ∧ kitB "str" "int" = some false ∧ kitB "list" "int" = some false ∧ kitB "tuple" "int" = some false := by decide +kernel
theorem kB_bool : kitB "NoneType" "bool" = some false ∧ kitB "bool" "bool" = some true ∧ kitB "int" "bool" = some false ∧ kitB "str" "bool" = some false ∧ kitB "list" "bool" = some false ∧ kitB "tuple" "bool" = some false := by decide +kernel
theorem kB_str : kitB "NoneType" "str" = some false ∧ kitB "bool" "str" = some false ∧ kitB "int" "str" = some false ∧ kitB "str" "str" = some true ∧ kitB "list" "str" = some false ∧ kitB "tuple" "str" = some false := by decide +kernel
theorem isiB_ok {n : String} {x : T} {b : Bool} (h : isiB n x = some b) : kitB (tyN x) n = some b := by
  unfold isiB at h
  split at h
  · cases x <;> cases h <;> first | exact kB_list.1 | exact kB_list.2.1 | exact kB_list.2.2.1 | exact kB_list.2.2.2.1 | exact kB_list.2.2.2.2.1 | exact kB_list.2.2.2.2.2
  · cases x <;> cases h <;> first | exact kB_tuple.1 | exact kB_tuple.2.1 | exact kB_tuple.2.2.1 | exact kB_tuple.2.2.2.1 | exact kB_tuple.2.2.2.2.1 | exact kB_tuple.2.2.2.2.2
  · cases x <;> cases h <;> first | exact kB_int.1 | exact kB_int.2.1 | exact kB_int.2.2.1 | exact kB_int.2.2.2.1 | exact kB_int.2.2.2.2.1 | exact kB_int.2.2.2.2.2
  · cases x <;> cases h <;> first | exact kB_bool.1 | exact kB_bool.2.1 | exact kB_bool.2.2.1 | exact kB_bool.2.2.2.1 | exact kB_bool.2.2.2.2.1 | exact kB_bool.2.2.2.2.2
  · cases x <;> cases h <;> first | exact kB_str.1 | exact kB_str.2.1 | exact kB_str.2.2.1 | exact kB_str.2.2.2.1 | exact kB_str.2.2.2.2.1 | exact kB_str.2.2.2.2.2
  · cases h
theorem tyX_of {K : PySem.W.Frag} {fa : Nat → Addr} {H : Hp} {v : V} {x : T} (r : Rep K fa H v x) (nf : ∀ k, x ≠ .fn k) (nd : ∀ lk ks xs, x ≠ .dic lk ks xs) (ni : ∀ nm xs, x ≠ .ins nm xs) : TyX K H v (.type (tyN x)) := by
  cases x with
  | non => cases r; exact .base .non
  | bl b => cases r; exact .base (.bl b)
  | int b => cases r; exact .base (.int b)
  | str b => cases r; exact .base (.str b)
  | lst xs => cases r with | lst g _ => exact .base (.lst g)
  | tup xs =>
    cases r with
    | tup s _ =>
      exact .base (.tup s)
  | lkl xs =>
    cases r with
    | lkl s _ =>
      rcases s with (s | ⟨o, s⟩) | ⟨o, its, n, h1, h2, _⟩
      · exact .base (.lst s)
      · exact .base (.frz s)
      · exact .kList h1 h2
  | fn k => exact absurd rfl (nf k)
  | dic lk ks xs => exact absurd rfl (nd lk ks xs)
  | ins nm xs => exact absurd rfl (ni nm xs)
def gIsi (n : String) (ρ : REnv) (l : L) : Option L := (l.view ρ).bind fun x => (isiB n x).map fun b => .t (.bl b)
theorem unt_isi {K : PySem.W.Frag} {fa : Nat → Addr} {n : String} : UnT K fa (fun x H Q => rIsi K [x, .ty n] H Q) (gIsi n) := by
  intro C0 G0 H0 G H σ ρ v1 l1 l Q O e k
  cases q : l1.view ρ with
  | none => simp [gIsi, q] at e
  | some x =>
    cases q1 : isiB n x with
    | none => simp [gIsi, q, q1] at e
    | some b =>
      simp [gIsi, q, q1] at e
      subst e
      have r := view_ok O.env O.r1 q
      have nf : ∀ k, x ≠ .fn k := fun k z => by
        subst z
        unfold isiB at q1
        split at q1 <;> cases q1
      have nd : ∀ lk ks xs, x ≠ .dic lk ks xs := fun lk ks xs z => by
        subst z
        unfold isiB at q1
        split at q1 <;> cases q1
      have ni : ∀ nm xs, x ≠ .ins nm xs := fun nm xs z => by
        subst z
        unfold isiB at q1
        split at q1 <;> cases q1
      exact ⟨v1, .ty n, _, .type n, b, rfl, .ty n, tyX_of r nf nd ni, kit_ty (isiB_ok q1), k _ _ _ (O.toAt.bl b)⟩
section
variable {X : Cx} {fa : Nat → Addr} {e : Expr} {pos p p2 : Pos} {d : Den}
theorem SE.isi {x : Str} {n : String} (hg : Gl X "isinstance") (hm : X.mg "isinstance" = none) (hg2 : Gl X x) (hm2 : X.mg x = none) (hv2 : bootBuiltins x = some (.type n)) (hn2 : x ≠ "__name__") (hd2 : (x == ("__debug__" : Str)) = false) (h : SE X fa e d)
    (he : starEach (e :: [.Name x p2]) X.env = (false, eval e X.env) :: starEach [.Name x p2] X.env) : SE X fa (.Call (.Name "isinstance" p) [e, .Name x p2] [] pos) (den1 (gIsi n) d) :=
  h.un (fun ta pa => pe_callB call_isi hg hm PyProof.Rows.boot_isinstance (pa_cons pa (pa_cons (pe_bltn (v := .ty n) hg2 hm2 hv2 rfl hn2 hd2) pa_nil rfl) he) (by decide) (by decide) he rfl) unt_isi
end

/-! ### methods of lists that change nothing -/
def gVm (f : List T → T → Option T) (ρ : REnv) (l1 l2 : L) : Option L := (l1.lview ρ).bind fun xs => (l2.view ρ).bind fun y => (f xs y).map L.t
/-- what a rule by trees has to give -/
def VmT (K : PySem.W.Frag) (fa : Nat → Addr) (r : V → List V → Hp → VK → Prop) (f : List T → T → Option T) : Prop :=
  ∀ (G H : Hp) (a : Addr) (ws : List V) (v : V) (xs : List T) (y z : T) (Q : VK), Same G H → RepAll K fa G ws xs → Rep K fa H v y → H a = some (.lst ws) → f xs y = some z → (∀ u, Rep K fa G u z → Q u H) → r (.ref a) [v] H Q
def dVm (f : List T → T → Option T) (d1 d2 : Den) : Den := fun ρ => (d1 ρ).bind fun p => (p.1.lview p.2).bind fun _ => (d2 p.2).bind fun q => (gVm f q.2 p.1 q.1).map fun l => (l, q.2)
section
variable {X : Cx} {fa : Nat → Addr} {e o : Expr} {pos apos cpos : Pos} {d d1 d2 : Den} {name : Str} {id : String} {r : V → List V → Hp → VK → Prop} {f : List T → T → Option T}
theorem SE.vm (slot : Slot "list" name id) (hty : typeOf (.builtin id) = pure (.type "method_descriptor")) (hm : MtR X id r) (vt : VmT X.K fa r f) (ho : SE X fa o d1) (h : SE X fa e d2)
    (hbase : attributeBase o name X.env (eval o X.env) = eval o X.env)
    (hfew : ((backTo cpos (starEach (e :: []) X.env)).all (fun x => !x.1) && (backToKw cpos (keywordEach [] X.env)).all (fun x => x.1.isSome)
      && decide ((e :: []).length + ([] : List Keyword).length + (if ([] : List Keyword).isEmpty then 0 else 1) < 30)) = true)
    (hline : (apos.endLine == cpos.line) = true) (hs : starEach (e :: []) X.env = (false, eval e X.env) :: starEach [] X.env) :
    SE X fa (.Call (.Attribute o name apos) [e] [] cpos) (dVm f d1 d2) := by
  obtain ⟨t1, p1, r1⟩ := ho
  obtain ⟨t2, p2, r2⟩ := h
  refine ⟨_, pe_bm PySem.F.plainAttrs_list slot hty hm p1 (pa_cons p2 pa_nil hs) hbase hfew hline hs rfl, fun σ G H ρ l ρ' Q E hd k => ?_⟩
  cases q : d1 ρ with
  | none => simp [dVm, q] at hd
  | some z =>
    cases q0 : z.1.lview z.2 with
    | none => simp [dVm, q, q0] at hd
    | some xs0 =>
    cases q1 : d2 z.2 with
    | none => simp [dVm, q, q0, q1] at hd
    | some w =>
      cases q2 : z.1.lview w.2 with
      | none => simp [dVm, q, q0, q1, gVm, q2] at hd
      | some xs =>
        cases q3 : w.1.view w.2 with
        | none => simp [dVm, q, q0, q1, gVm, q2, q3] at hd
        | some y =>
          cases q4 : f xs y with
          | none => simp [dVm, q, q0, q1, gVm, q2, q3, q4] at hd
          | some u =>
            simp [dVm, q, q0, q1, gVm, q2, q3, q4] at hd
            obtain ⟨rfl, rfl⟩ := hd
            refine r1 σ G H ρ z.1 z.2 _ E q fun v1 G1 H1 P1 => ?_
            have tv : tyV X.K "list" v1 H1 := by
              obtain ⟨a, vs, rfl, hp, _⟩ := lview_ok P1.env P1.rep q0
              exact .inl ⟨rfl, _, .of hp⟩
            refine ⟨tv, r2 σ G1 H1 z.2 w.1 w.2 _ P1.env q1 fun v2 G2 H2 P2 => ?_⟩
            have O := P1.then2 P2
            obtain ⟨a, vs, rfl, hp, rp⟩ := lview_ok O.env O.r1 q2
            exact vt G2 H2 a vs v2 xs y u _ O.env.same rp (view_ok O.env O.r2 q3) hp q4 fun u' ru => k u' G2 H2 (O.toAt.tr ru).post
end
end LW
namespace LW
open PySem PySem.Spec PyProof.Rows L2

/-! ### dicts whose keys are ints and texts -/
def T.key : T → Option Key
  | .int i => some (.inl i)
  | .str x => some (.inr x)
  | _ => none
def getD (kvs : List (Key × T)) (k : Key) : Option T := (kvs.find? fun kv => decide (kv.1 = k)).map (·.2)
def putD (kvs : List (Key × T)) (k : Key) (x : T) : List (Key × T) :=
  if (kvs.any fun kv => decide (kv.1 = k)) = true then kvs.map (fun kv => if kv.1 = k then (kv.1, x) else kv) else kvs ++ [(k, x)]
def L.dview (ρ : REnv) : L → Option (List (Key × T))
  | .t (.dic _ ks xs) => some (ks.zip xs)
  | .own (.dK kvs) => some kvs
  | .ref i => match ρ[i]? with
    | some (.own (.dK kvs)) => some kvs
    | _ => none
  | _ => none
section
variable {K : PySem.W.Frag} {fa : Nat → Addr} {G G' H H' : Hp} {σ : L2.St} {ρ ρ' : REnv} {C C' : Addr → Prop}
abbrev PrD (K : PySem.W.Frag) (fa : Nat → Addr) (G : Hp) : List (Key × V) → List (Key × T) → Prop := Paired (fun p q => p.1 = q.1 ∧ Rep K fa G p.2 q.2)
theorem prD_zip : ∀ {vs : List (Key × V)} {xs : List T}, RepAll K fa G (vs.map (·.2)) xs → PrD K fa G vs ((vs.map (·.1)).zip xs)
  | [], _, h => by cases h; exact .nil
  | v :: vs, _, h => by
    cases h with
    | cons a b => exact .cons ⟨rfl, a⟩ (prD_zip b)
theorem prD_un : ∀ {vs : List (Key × V)} {kvs : List (Key × T)}, PrD K fa G vs kvs → vs.map (·.1) = kvs.map (·.1) ∧ RepAll K fa G (vs.map (·.2)) (kvs.map (·.2))
  | _, _, .nil => ⟨rfl, .nil⟩
  | _, _, .cons a b => by
    obtain ⟨h1, h2⟩ := prD_un b
    exact ⟨by rw [List.map_cons, List.map_cons, a.1, h1], .cons a.2 h2⟩
theorem prD_get {k : Key} : ∀ {vs : List (Key × V)} {kvs : List (Key × T)}, PrD K fa G vs kvs → (∀ x, getD kvs k = some x → ∃ v, valV vs k = some v ∧ Rep K fa G v x) ∧ (getD kvs k = none → valV vs k = none)
  | _, _, .nil => ⟨fun x e => (by cases e), fun _ => rfl⟩
  | _, _, .cons (a := p) (b := q) a b => by
    obtain ⟨h1, h2⟩ := prD_get b
    by_cases e : q.1 = k
    · have e' : p.1 = k := a.1.trans e
      refine ⟨fun x hx => ?_, fun hx => ?_⟩
      · simp [getD, e] at hx
        subst hx
        exact ⟨_, valV_pos e', a.2⟩
      · simp [getD, e] at hx
    · have e' : ¬ p.1 = k := fun z => e (a.1.symm.trans z)
      refine ⟨fun x hx => ?_, fun hx => ?_⟩
      · rw [valV_neg e']
        exact h1 x (by simpa [getD, List.find?_cons, e] using hx)
      · rw [valV_neg e']
        exact h2 (by simpa [getD, List.find?_cons, e] using hx)
theorem prD_any {k : Key} : ∀ {vs : List (Key × V)} {kvs : List (Key × T)}, PrD K fa G vs kvs → (vs.any fun kv => decide (kv.1 = k)) = (kvs.any fun kv => decide (kv.1 = k))
  | _, _, .nil => rfl
  | _, _, .cons a b => by rw [List.any_cons, List.any_cons, a.1, prD_any b]
theorem prD_map {k : Key} {v : V} {x : T} (r : Rep K fa G v x) : ∀ {vs : List (Key × V)} {kvs : List (Key × T)}, PrD K fa G vs kvs →
    PrD K fa G (vs.map fun kv => if kv.1 = k then (kv.1, v) else kv) (kvs.map fun kv => if kv.1 = k then (kv.1, x) else kv)
  | _, _, .nil => .nil
  | _, _, .cons (a := p) (b := q) a b => by
    rw [List.map_cons, List.map_cons]
    refine .cons ?_ (prD_map r b)
    by_cases e : q.1 = k
    · rw [if_pos e, if_pos (a.1.trans e)]
      exact ⟨a.1, r⟩
    · rw [if_neg e, if_neg fun z => e (a.1.symm.trans z)]
      exact a
theorem prD_app : ∀ {vs ws : List (Key × V)} {kvs lvs : List (Key × T)}, PrD K fa G vs kvs → PrD K fa G ws lvs → PrD K fa G (vs ++ ws) (kvs ++ lvs)
  | _, _, _, _, .nil, g => g
  | _, _, _, _, .cons a b, g => .cons a (prD_app b g)
theorem prD_put {k : Key} {v : V} {x : T} (r : Rep K fa G v x) {vs : List (Key × V)} {kvs : List (Key × T)} (h : PrD K fa G vs kvs) : PrD K fa G (putK vs k v) (putD kvs k x) := by
  unfold putK putD
  rw [prD_any h]
  by_cases e : (kvs.any fun kv => decide (kv.1 = k)) = true
  · rw [if_pos e, if_pos e]
    exact prD_map r h
  · rw [if_neg e, if_neg e]
    exact prD_app h (.cons ⟨rfl, r⟩ .nil)
theorem prD_len : ∀ {vs : List (Key × V)} {kvs : List (Key × T)}, PrD K fa G vs kvs → vs.length = kvs.length
  | _, _, .nil => rfl
  | _, _, .cons a b => by rw [List.length_cons, List.length_cons, prD_len b]
theorem key_V {v : V} {x : T} {k : Key} (r : Rep K fa G v x) (h : x.key = some k) : v = kV k := by
  cases x <;> cases h
  · cases r; rfl
  · cases r; rfl
theorem dview_ok {v : V} {l : L} {xs : List (Key × T)} (E : EnvOk K fa G H σ ρ) (h : LRep K fa G H C σ v l) (e : l.dview ρ = some xs) : ∃ a vs, v = .ref a ∧ Rd H a (.dK vs) ∧ PrD K fa G vs xs := by
  cases l with
  | un => cases e
  | t y =>
    cases y with
    | dic lk ks ts =>
      cases e
      cases (show Rep K fa G v _ from h) with
      | dic g f q r =>
        subst q
        exact ⟨_, _, rfl, g.elim (fun g => .inl (E.same _ _ g)) fun ⟨o, g⟩ => .inr ⟨o, E.same _ _ g⟩, prD_zip r⟩
    | _ => cases e
  | own c =>
    cases c with
    | dK ys =>
      cases e
      obtain ⟨p, o, rfl, g, n, hh, r⟩ := h
      cases o with
      | dK vs => exact ⟨p, vs, rfl, .inl hh, r⟩
      | _ => exact (show False from r).elim
    | _ => cases e
  | ref i =>
    cases q : ρ[i]? with
    | none => simp only [L.dview, q] at e; cases e
    | some m =>
      simp only [L.dview, q] at e
      cases m with
      | own c =>
        cases c with
        | dK ys =>
          cases e
          obtain ⟨a, o, e1, e2, e3, e4⟩ := E.own i _ q
          have e5 : σ[i]? = some (some v) := h
          rw [e1] at e5; cases e5
          cases o with
          | dK vs => exact ⟨a, vs, rfl, .inl e3, e4⟩
          | _ => exact (show False from e4).elim
        | _ => cases e
      | _ => cases e
end
section
variable {X : Cx} {fa : Nat → Addr} {e o f : Expr} {pos apos cpos : Pos} {d d1 d2 d3 : Den}
/-- {} -/
def dDicK : Den := fun ρ => some (.own (.dK []), ρ)
theorem SE.dicK : SE X fa (.Dict [] [] pos) dDicK := by
  refine ⟨_, pe_dnewK, fun σ G H ρ l ρ' Q E hd k => ?_⟩
  cases hd
  intro p hp
  obtain ⟨a, b, c⟩ := (At.start E).newOwn (o := .dK []) (c := .dK []) hp (Paired.nil)
  exact k _ _ _ ⟨a.aft, a.env, b, c⟩
/-- d[k] -/
def gDget (ρ : REnv) (l1 l2 : L) : Option L := (l1.dview ρ).bind fun kvs => (l2.view ρ).bind fun y => y.key.bind fun k => (getD kvs k).map L.t
theorem SE.dget (hu : X.A.units + 1 < cLine) (h1 : SE X fa o d1) (h2 : SE X fa e d2) (hs : NoSl e) : SE X fa (.Subscript o e pos) (den2 gDget d1 d2) := by
  obtain ⟨t1, p1, r1⟩ := h1
  obtain ⟨t2, p2, r2⟩ := h2
  refine ⟨_, pe_dget hu p1 p2 hs, fun σ G H ρ l ρ' Q E hd k => ?_⟩
  cases q : d1 ρ with
  | none => simp [den2, q] at hd
  | some z =>
    cases q1 : d2 z.2 with
    | none => simp [den2, q, q1] at hd
    | some w =>
      cases q2 : z.1.dview w.2 with
      | none => simp [den2, q, q1, gDget, q2] at hd
      | some kvs =>
        cases q3 : w.1.view w.2 with
        | none => simp [den2, q, q1, gDget, q2, q3] at hd
        | some y =>
          cases q4 : y.key with
          | none => simp [den2, q, q1, gDget, q2, q3, q4] at hd
          | some kk =>
            cases q5 : getD kvs kk with
            | none => simp [den2, q, q1, gDget, q2, q3, q4, q5] at hd
            | some u =>
              simp [den2, q, q1, gDget, q2, q3, q4, q5] at hd
              obtain ⟨rfl, rfl⟩ := hd
              refine r1 σ G H ρ z.1 z.2 _ E q fun v1 G1 H1 P1 => r2 σ G1 H1 z.2 w.1 w.2 _ P1.env q1 fun v2 G2 H2 P2 => ?_
              have O := P1.then2 P2
              obtain ⟨a, vs, rfl, hp, rp⟩ := dview_ok O.env O.r1 q2
              obtain ⟨v, hv, rv⟩ := (prD_get rp).1 u q5
              exact ⟨a, v, rfl, .inl ⟨vs, kk, hp, key_V (view_ok O.env O.r2 q3) q4, hv.symm⟩, k v G2 H2 (O.toAt.tr rv).post⟩
/-- d.get(k, x) -/
def dDget2 (d1 d2 d3 : Den) : Den := fun ρ => (d1 ρ).bind fun p => (p.1.dview p.2).bind fun _ => (d2 p.2).bind fun q => (q.1.tree).bind fun y => y.key.bind fun k => (d3 q.2).bind fun z => z.1.tree.bind fun x => (p.1.dview z.2).map fun kvs => (.t ((getD kvs k).getD x), z.2)
theorem SE.dget2 (hu : X.A.units + 1 < cLine) (h1 : SE X fa o d1) (h2 : SE X fa e d2) (h3 : SE X fa f d3) (m : M2 X o "get" apos e f cpos) : SE X fa (.Call (.Attribute o "get" apos) [e, f] [] cpos) (dDget2 d1 d2 d3) := by
  obtain ⟨t1, p1, r1⟩ := h1
  obtain ⟨t2, p2, r2⟩ := h2
  obtain ⟨t3, p3, r3⟩ := h3
  refine ⟨_, pe_dget2 hu p1 p2 p3 m, fun σ G H ρ l ρ' Q E hd k => ?_⟩
  cases q : d1 ρ with
  | none => simp [dDget2, q] at hd
  | some z =>
    cases q0 : z.1.dview z.2 with
    | none => simp [dDget2, q, q0] at hd
    | some kv0 =>
    cases q1 : d2 z.2 with
    | none => simp [dDget2, q, q0, q1] at hd
    | some w =>
      cases q3 : w.1.tree with
      | none => simp [dDget2, q, q0, q1, q3] at hd
      | some y =>
        cases q4 : y.key with
        | none => simp [dDget2, q, q0, q1, q3, q4] at hd
        | some kk =>
          cases q5 : d3 w.2 with
          | none => simp [dDget2, q, q0, q1, q3, q4, q5] at hd
          | some u =>
            cases q6 : u.1.tree with
            | none => simp [dDget2, q, q0, q1, q3, q4, q5, q6] at hd
            | some x =>
              cases q2 : z.1.dview u.2 with
              | none => simp [dDget2, q, q0, q1, q3, q4, q5, q6, q2] at hd
              | some kvs =>
                simp [dDget2, q, q0, q1, q3, q4, q5, q6, q2] at hd
                obtain ⟨rfl, rfl⟩ := hd
                refine r1 σ G H ρ z.1 z.2 _ E q fun v1 G1 H1 P1 => ?_
                obtain ⟨a0, vs0, rfl, hp0, _⟩ := dview_ok P1.env P1.rep q0
                refine ⟨a0, rfl, .inl ⟨vs0, hp0⟩, r2 σ G1 H1 z.2 w.1 w.2 _ P1.env q1 fun v2 G2 H2 P2 => ?_⟩
                obtain ⟨G3, E3, R3, A3, sm3, _⟩ := toTree P2.env P2.rep P2.new P2.aft q3
                refine r3 σ G3 H2 w.2 u.1 u.2 _ E3 q5 fun v3 G4 H4 P4 => ?_
                obtain ⟨G5, E5, R5, A5, sm5, _⟩ := toTree P4.env P4.rep P4.new P4.aft q6
                have r1' := (P1.rep.aft A3).aft A5
                obtain ⟨a, vs, ea, hp, rp⟩ := dview_ok E5 r1' q2
                cases ea
                have A : At X.K fa (Cl σ ρ) G H G5 H4 σ u.2 := ⟨E5, (P1.aft.trans A3).trans A5⟩
                have hk : v2 = kV kk := key_V R3 q4
                cases q7 : getD kvs kk with
                | none => exact ⟨none, .inl ⟨vs, kk, hp, hk, ((prD_get rp).2 q7).symm⟩, k _ _ _ (A.tr (by rw [q7]; exact R5)).post⟩
                | some x7 =>
                  obtain ⟨v7, hv, rv⟩ := (prD_get rp).1 x7 q7
                  exact ⟨some v7, .inl ⟨vs, kk, hp, hk, hv.symm⟩, k _ _ _ (A.tr (by rw [q7]; exact rv)).post⟩
def isOwnD (ρ : REnv) (i : Nat) : Bool := match ρ[i]? with
  | some (.own (.dK _)) => true
  | _ => false
theorem isOwnD_inv {ρ : REnv} {i : Nat} (h : isOwnD ρ i = true) : ∃ xs, ρ[i]? = some (.own (.dK xs)) := by
  unfold isOwnD at h
  split at h
  · rename_i xs e; exact ⟨xs, e⟩
  · cases h
/-- d[k] = v -/
def dDput (i : Nat) (dk dv : Den) : DenS := fun ρ => (dv ρ).bind fun p => p.1.tree.bind fun x => if isOwnD p.2 i then (dk p.2).bind fun q => q.1.tree.bind fun y => y.key.bind fun k => (match q.2[i]? with
  | some (.own (.dK kvs)) => if kvs.length < line then some (.nx, q.2.set i (.own (.dK (putD kvs k x)))) else none
  | _ => none) else none
theorem SS.dput {i : Nat} {x : Str} {pn pos' : Pos} {dk dv : Den} (hu : X.A.units + 1 < cLine) (hN : X.N[i]? = some x) (hv : Vis X.env.scope x) (hd : (x == ("__debug__" : Str)) = false) (hcd : (x == ("__classdict__" : Str)) = false)
    (hk : SE X fa e dk) (h : SE X fa f dv) (hs : swapsWith f (some (.Subscript (.Name x pn) e pos')) pos.line X.env = pure false) : SS X fa (.Assign [.Subscript (.Name x pn) e pos'] f pos) [] (dDput i dk dv) := by
  obtain ⟨t1, p1, r1⟩ := h
  obtain ⟨t2, p2, r2⟩ := hk
  refine ⟨_, ps_dput hu (pe_var hN hv hd hcd) p2 p1 hs, fun σ G H ρ fl ρ' D E hd k => ?_⟩
  cases q : dv ρ with
  | none => simp [dDput, q] at hd
  | some z =>
    cases q1 : z.1.tree with
    | none => simp [dDput, q, q1] at hd
    | some xv =>
      by_cases ho : isOwnD z.2 i = true
      · cases q2 : dk z.2 with
        | none => simp [dDput, q, q1, ho, q2] at hd
        | some w =>
          cases q3 : w.1.tree with
          | none => simp [dDput, q, q1, ho, q2, q3] at hd
          | some y =>
            cases q4 : y.key with
            | none => simp [dDput, q, q1, ho, q2, q3, q4] at hd
            | some kk =>
              cases q5 : w.2[i]? with
              | none => simp [dDput, q, q1, ho, q2, q3, q4, q5] at hd
              | some m =>
                cases m with
                | own c =>
                  cases c with
                  | dK kvs =>
                    by_cases hl : kvs.length < line
                    · simp [dDput, q, q1, ho, q2, q3, q4, q5, hl] at hd
                      obtain ⟨rfl, rfl⟩ := hd
                      refine r1 σ G H ρ z.1 z.2 _ E q fun v1 G1 H1 P1 => ?_
                      obtain ⟨G2, E2, R2, A2, sm2, _⟩ := toTree P1.env P1.rep P1.new P1.aft q1
                      obtain ⟨c', hc'⟩ := isOwnD_inv ho
                      obtain ⟨a0, o0, e0, g0, h0, r0⟩ := E2.own i _ hc'
                      refine ⟨_, e0, r2 σ G2 H1 z.2 w.1 w.2 _ E2 q2 fun v2 G3 H3 P3 => ?_⟩
                      obtain ⟨G4, E4, R4, A4, sm4, _⟩ := toTree P3.env P3.rep P3.new P3.aft q3
                      obtain ⟨p, oo, f1, g, f3, f4⟩ := E4.own i _ q5
                      rw [e0] at f1; cases f1
                      cases oo with
                      | dK ws =>
                        have f4 : PrD X.K fa G4 ws kvs := f4
                        refine ⟨a0, _, rfl, .inl ⟨ws, kk, f3, key_V R4 q4, by rw [prD_len f4, ← line_eq]; exact hl, rfl⟩, ?_⟩
                        have A1 : At X.K fa (Cl σ ρ) G H G4 H3 σ w.2 := ⟨E4, A2.trans A4⟩
                        exact k σ G4 _ ⟨A1.put (c' := .dK (putD kvs kk xv)) (o' := .dK (putK ws kk v1)) q5 e0 f3 (prD_put (R2.mono A4.gg) f4), Slots.refl⟩
                      | _ => exact (show False from f4).elim
                    · simp [dDput, q, q1, ho, q2, q3, q4, q5, hl] at hd
                  | _ => simp [dDput, q, q1, ho, q2, q3, q4, q5] at hd
                | _ => simp [dDput, q, q1, ho, q2, q3, q4, q5] at hd
      · simp [dDput, q, q1, ho] at hd
end
end LW
namespace LW
open PySem PySem.Spec PyProof.Rows L2

/-! ### a dict's keys, the dict locked -/
def keyT : Key → T
  | .inl i => .int i
  | .inr x => .str x
theorem keyT_rep {K : PySem.W.Frag} {fa : Nat → Addr} {G : Hp} (k : Key) : Rep K fa G (kV k) (keyT k) := by
  cases k
  · exact .int _
  · exact .str _
theorem walks_k {K : PySem.W.Frag} {fa : Nat → Addr} {d : Addr} {o : Obj} {vs : List (Key × V)} : Walks K fa (Itk d o vs) [] ((vs.map (·.1)).map keyT) (fun G H => G d = some (.frz o (.dK vs))) where
  go := fun i G H y h s e => by
    have hi : i < vs.length := by
      have := (List.getElem?_eq_some_iff.mp e).1
      simpa using this
    refine ⟨⟨s _ _ h, hi⟩, fun w H' hy => ?_⟩
    obtain ⟨rfl, k, v, hk, rfl⟩ := hy
    refine ⟨G, Aft.same, s, ?_⟩
    have : y = keyT k := by
      simp [hk] at e
      exact e.symm
    subst this
    exact keyT_rep k
  stop := fun i G H h s hi => ⟨s _ _ h, by simpa using hi⟩
  stb := fun C C' G H G' H' h a n => a.gg _ _ h
def iKeysT (d : Den) : DenI := fun ρ => (d ρ).bind fun p => match p.1 with
  | .t (.dic true ks _) => some (ks.map keyT, none, p.2)
  | _ => none
section
variable {X : Cx} {fa : Nat → Addr} {e tg : Expr} {d : Den}
theorem SI.keys (h : SE X fa e d) : SI X fa tg e (iKeysT d) := by
  obtain ⟨t, pt, rt⟩ := h
  refine ⟨_, pi_keys pt, fun σ G H ρ xs ho ρ' R E hd k => ?_⟩
  cases q : d ρ with
  | none => simp [iKeysT, q] at hd
  | some z =>
    obtain ⟨l, ρ1⟩ := z
    cases l with
    | t x =>
      cases x with
      | dic lk ks ts =>
        cases lk with
        | true =>
          simp [iKeysT, q] at hd
          obtain ⟨rfl, rfl, rfl⟩ := hd
          refine rt σ G H ρ _ _ _ E q fun v G1 H1 P => ?_
          cases (show Rep X.K fa G1 v _ from P.rep) with
          | dic g f qq r =>
            obtain ⟨o, f⟩ := f rfl
            subst qq
            exact ⟨_, o, rfl, .inl ⟨_, P.env.same _ _ f, k _ [] _ G1 H1 ⟨P.env, P.aft⟩ walks_k f fun b hb => by cases hb⟩⟩
        | false => simp [iKeysT, q] at hd
      | _ => simp [iKeysT, q] at hd
    | _ => simp [iKeysT, q] at hd
end
mutual
/-- no dict among it -/
def T.noD : T → Bool
  | .dic _ _ _ => false
  | .ins _ _ => false
  | .tup xs => T.noDs xs
  | .lst xs => T.noDs xs
  | .lkl xs => T.noDs xs
  | _ => true
def T.noDs : List T → Bool
  | [] => true
  | x :: xs => T.noD x && T.noDs xs
end
section
variable {K : PySem.W.Frag} {fa : Nat → Addr} {G G' : Hp} {d : Addr} {od : Obj} {ks : List (Key × V)}
mutual
theorem Rep.noD (hd : G d = some (.frz od (.dK ks))) (hG : ∀ a, a ≠ d → G' a = G a) : ∀ {x : T} {v : V}, x.noD = true → Rep K fa G v x → Rep K fa G' v x
  | .non, _, _, h => by cases h; exact .non
  | .bl b, _, _, h => by cases h; exact .bl b
  | .int i, _, _, h => by cases h; exact .int i
  | .str x, _, _, h => by cases h; exact .str x
  | .lst ts, _, n, h => by
    cases h with
    | lst e r =>
      refine .lst ?_ (RepAll.noD hd hG (by simpa only [T.noD] using n) r)
      rw [hG _ fun z => by rw [z, hd] at e; cases e]; exact e
  | .tup ts, _, n, h => by
    cases h with
    | tup e r =>
      refine .tup ?_ (RepAll.noD hd hG (by simpa only [T.noD] using n) r)
      rw [hG _ fun z => by rw [z, hd] at e; cases e]; exact e
  | .lkl ts, _, n, h => by
    cases h with
    | lkl e r =>
      refine .lkl ?_ (RepAll.noD hd hG (by simpa only [T.noD] using n) r)
      rcases e with (e | ⟨o, e⟩) | e
      · exact .inl (.inl (by rw [hG _ fun z => by rw [z, hd] at e; cases e]; exact e))
      · exact .inl (.inr ⟨o, by rw [hG _ fun z => by rw [z, hd] at e; cases e]; exact e⟩)
      · exact .inr e
  | .fn k, _, _, h => by cases h; exact .fn k
  | .dic _ _ _, _, n, _ => by simp [T.noD] at n
  | .ins _ _, _, n, _ => by simp [T.noD] at n
theorem RepAll.noD (hd : G d = some (.frz od (.dK ks))) (hG : ∀ a, a ≠ d → G' a = G a) : ∀ {xs : List T} {vs : List V}, T.noDs xs = true → RepAll K fa G vs xs → RepAll K fa G' vs xs
  | [], _, _, h => by cases h; exact .nil
  | x :: xs, _, n, h => by
    simp only [T.noDs, Bool.and_eq_true] at n
    cases h with
    | cons a b => exact .cons (Rep.noD hd hG n.1 a) (RepAll.noD hd hG n.2 b)
end
end
def OC.noD : OC → Bool
  | .lst xs => T.noDs xs
  | .dK ks => T.noDs (ks.map (·.2))
  | .dT ks => T.noDs (ks.map (·.2))
def L.noD : L → Bool
  | .t x => x.noD
  | .own c => c.noD
  | _ => true
theorem ORep.noD {K : PySem.W.Frag} {fa : Nat → Addr} {G G' : Hp} {d : Addr} {od : Obj} {ks : List (Key × V)} (hd : G d = some (.frz od (.dK ks))) (hG : ∀ a, a ≠ d → G' a = G a) {o : HO} {c : OC} (n : c.noD = true) (h : ORep K fa G o c) : ORep K fa G' o c := by
  have pr : ∀ {κ : Type} {vs : List (κ × V)} {ts : List (κ × T)}, T.noDs (ts.map (·.2)) = true → Paired (fun p q => p.1 = q.1 ∧ Rep K fa G p.2 q.2) vs ts → Paired (fun p q => p.1 = q.1 ∧ Rep K fa G' p.2 q.2) vs ts := by
    intro κ vs ts
    induction ts generalizing vs with
    | nil => intro _ h; cases h; exact .nil
    | cons t ts ih =>
      intro n h
      cases h with
      | cons a b =>
        simp only [List.map_cons, T.noDs, Bool.and_eq_true] at n
        exact .cons ⟨a.1, a.2.noD hd hG n.1⟩ (ih n.2 b)
  cases c with
  | lst xs =>
    cases o with
    | lst vs => exact RepAll.noD hd hG n h
    | _ => exact (show False from h).elim
  | dK xs =>
    cases o with
    | dK vs => exact pr n h
    | _ => exact (show False from h).elim
  | dT xs =>
    cases o with
    | dT vs => exact pr n h
    | _ => exact (show False from h).elim
def L.plain : L → Bool
  | .t _ => true
  | .own _ => true
  | _ => false
/-- an expression over a slot's own dict, the dict locked -/
def dLock (i : Nat) (d : Den) : Den := fun ρ => match ρ[i]? with
  | some (.own (.dK kvs)) => (d (ρ.set i (.t (.dic true (kvs.map (·.1)) (kvs.map (·.2)))))).bind fun p => if p.1.plain && p.1.noD && ((p.2 : List L).set i L.un).all L.noD then (match p.2[i]? with
    | some (.t (.dic true ks xs)) => if T.noDs xs then some (p.1, p.2.set i (.own (.dK (ks.zip xs)))) else none
    | _ => none) else none
  | _ => none
theorem SE.lock {X : Cx} {fa : Nat → Addr} {e : Expr} {d : Den} (i : Nat) (h : SE X fa e d) : SE X fa e (dLock i d) := by
  obtain ⟨t, pt, rt⟩ := h
  refine ⟨_, pe_lock pt, fun σ G H ρ l ρ' Q E hd k => ?_⟩
  unfold dLock at hd
  split at hd
  · rename_i kvs hi
    cases q : d (ρ.set i (.t (.dic true (kvs.map (·.1)) (kvs.map (·.2))))) with
    | none => simp [q] at hd
    | some z =>
      rw [q, Option.bind_some] at hd
      split at hd
      · rename_i hc
        split at hd
        · rename_i ks xs hz
          split at hd
          case isFalse => cases hd
          rename_i hxs
          cases hd
          simp only [Bool.and_eq_true] at hc
          obtain ⟨⟨hpl, hno⟩, hall⟩ := hc
          obtain ⟨a, o, hs, hg, hh, ro⟩ := E.own i _ hi
          have hil : i < ρ.length := (List.getElem?_eq_some_iff.mp hi).1
          cases o with
          | dK vs =>
            have ro : PrD X.K fa G vs kvs := ro
            obtain ⟨u1, u2⟩ := prD_un ro
            refine ⟨a, .dK vs, hh, trivial, fun od => ?_⟩
            have ga : ∀ b, b ≠ a → upd G a (.frz od (.dK vs)) b = G b := fun b hb => upd_ne hb
            have smG : Same G (upd G a (.frz od (.dK vs))) := fun b u e => by rw [upd_ne (ne_of_none e hg)]; exact e
            have cl1 : ∀ b, Cl σ (ρ.set i (.t (.dic true (kvs.map (·.1)) (kvs.map (·.2))))) b → Cl σ ρ b ∧ b ≠ a := fun b ⟨j, c, e1, e2⟩ => by
              rcases set_get e1 with ⟨_, z⟩ | ⟨n, f⟩
              · cases z
              · exact ⟨⟨j, c, f, e2⟩, fun z => by subst z; exact n (E.inj j i _ _ _ f hi e2 hs)⟩
            have E1 : EnvOk X.K fa (upd G a (.frz od (.dK vs))) (upd H a (.frz od (.dK vs))) σ (ρ.set i (.t (.dic true (kvs.map (·.1)) (kvs.map (·.2))))) := by
              refine ⟨fun b u e => ?_, by simp [E.len], fun j x e => ?_, fun j c e => ?_, fun j j' c c' b e1 e2 e3 e4 => ?_⟩
              · by_cases hb : b = a
                · subst hb; rw [upd_same] at e ⊢; exact e
                · rw [upd_ne hb] at e ⊢; exact E.same b u e
              · rcases set_get e with ⟨rfl, z⟩ | ⟨_, f⟩
                · cases z
                  refine ⟨_, hs, .dic (.inr ⟨od, upd_same⟩) (fun _ => ⟨od, upd_same⟩) u1 (RepAll.mono smG u2)⟩
                · obtain ⟨v, f1, f2⟩ := E.t j x f
                  exact ⟨v, f1, f2.mono smG⟩
              · rcases set_get e with ⟨_, z⟩ | ⟨n, f⟩
                · cases z
                · obtain ⟨b, u, f1, f2, f3, f4⟩ := E.own j c f
                  have hb : b ≠ a := fun z => by subst z; exact n (E.inj j i _ _ _ f hi f1 hs)
                  exact ⟨b, u, f1, by rw [upd_ne hb]; exact f2, by rw [upd_ne hb]; exact f3, f4.mono smG⟩
              · rcases set_get e1 with ⟨_, z⟩ | ⟨_, f⟩
                · cases z
                · rcases set_get e2 with ⟨_, z⟩ | ⟨_, f'⟩
                  · cases z
                  · exact E.inj j j' c c' b f f' e3 e4
            refine rt σ _ _ _ z.1 z.2 _ E1 q fun v G2 H2 P => ?_
            have hG2a : G2 a = some (.frz od (.dK vs)) := P.aft.gg a _ upd_same
            have hH2a : H2 a = some (.frz od (.dK vs)) := P.env.same a _ hG2a
            refine ⟨hH2a, ?_⟩
            -- the frozen part without a
            let G3 : Hp := fun b => if b = a then none else G2 b
            have g3a : G3 a = none := if_pos rfl
            have g3n : ∀ b, b ≠ a → G3 b = G2 b := fun b hb => if_neg hb
            -- the dict in the slot behind
            have dz : PrD X.K fa G3 vs (ks.zip xs) → EnvOk X.K fa G3 (upd H2 a (.dK vs)) σ (z.2.set i (.own (.dK (ks.zip xs)))) := fun pr => by
              have other : ∀ (j : Nat) (l : L), j ≠ i → z.2[j]? = some l → l.noD = true := fun j l hj e => by
                have : (z.2.set i L.un)[j]? = some l := by rw [List.getElem?_set_ne (Ne.symm hj)]; exact e
                exact List.all_eq_true.mp hall l (List.mem_of_getElem? this)
              have ownA : ∀ (j : Nat) (c : OC) (b : Addr), z.2[j]? = some (.own c) → σ[j]? = some (some (.ref b)) → b ≠ a := fun j c b e1 e2 z => by
                obtain ⟨b', u, f1, f2, _⟩ := P.env.own j c e1
                rw [e2] at f1; cases f1
                rw [z, hG2a] at f2; cases f2
              refine ⟨fun b u e => ?_, by simp [P.env.len], fun j x e => ?_, fun j c e => ?_, fun j j' c c' b e1 e2 e3 e4 => ?_⟩
              · by_cases hb : b = a
                · subst hb; rw [g3a] at e; cases e
                · rw [g3n b hb] at e; rw [upd_ne hb]; exact P.env.same b u e
              · rcases set_get e with ⟨_, z⟩ | ⟨n, f⟩
                · cases z
                · obtain ⟨w, f1, f2⟩ := P.env.t j x f
                  exact ⟨w, f1, f2.noD hG2a g3n (other j _ n f)⟩
              · rcases set_get e with ⟨rfl, z⟩ | ⟨n, f⟩
                · cases z
                  exact ⟨a, .dK vs, hs, g3a, upd_same, pr⟩
                · obtain ⟨b, u, f1, f2, f3, f4⟩ := P.env.own j c f
                  have hb := ownA j c b f f1
                  exact ⟨b, u, f1, by rw [g3n b hb]; exact f2, by rw [upd_ne hb]; exact f3, f4.noD hG2a g3n (other j _ n f)⟩
              · rcases set_get e1 with ⟨rfl, _⟩ | ⟨n1, f1⟩
                · rcases set_get e2 with ⟨rfl, _⟩ | ⟨n2, f2⟩
                  · rfl
                  · rw [hs] at e3; cases e3
                    exact absurd rfl (ownA j' c' _ f2 e4)
                · rcases set_get e2 with ⟨rfl, _⟩ | ⟨n2, f2⟩
                  · rw [hs] at e4; cases e4
                    exact absurd rfl (ownA j c _ f1 e3)
                  · exact P.env.inj j j' c c' b f1 f2 e3 e4
            have pr : PrD X.K fa G3 vs (ks.zip xs) := by
              obtain ⟨w, f1, f2⟩ := P.env.t i _ hz
              rw [hs] at f1; cases f1
              cases f2 with
              | dic g f qq r =>
                obtain ⟨o', f⟩ := f rfl
                rw [hG2a] at f; cases f
                subst qq
                exact prD_zip (RepAll.noD hG2a g3n hxs r)
            have E3 := dz pr
            have clB : ∀ b, Cl σ (z.2.set i (.own (.dK (ks.zip xs)))) b → b = a ∨ Cl σ z.2 b := fun b ⟨j, c, e1, e2⟩ => by
              rcases set_get e1 with ⟨rfl, _⟩ | ⟨_, f⟩
              · rw [hs] at e2; cases e2; exact .inl rfl
              · exact .inr ⟨j, c, f, e2⟩
            have ncA : ∀ b u, H b = some u → ¬ Cl σ ρ b → b ≠ a := fun b u e n z => n (z ▸ ⟨i, _, hi, hs⟩)
            have aft : Aft (Cl σ ρ) (Cl σ (z.2.set i (.own (.dK (ks.zip xs))))) G H G3 (upd H2 a (.dK vs)) := by
              refine ⟨fun b u e => ?_, fun b u e n => ?_, fun b u e n g => ?_, fun b e => ?_, fun b hb => ?_⟩
              · have hb : b ≠ a := ne_of_none e hg
                rw [g3n b hb]; exact P.aft.gg b u (smG b u e)
              · have hb := ncA b u e n
                rw [upd_ne hb]
                exact P.aft.keep b u (by rw [upd_ne hb]; exact e) fun c => n (cl1 b c).1
              · have hb := ncA b u e n
                rw [g3n b hb]
                exact P.aft.gn b u (by rw [upd_ne hb]; exact e) (fun c => n (cl1 b c).1) (by rw [upd_ne hb]; exact g)
              · by_cases hb : b = a
                · subst hb; rw [upd_same] at e; cases e
                · rw [upd_ne hb] at e
                  have := P.aft.there b e
                  rwa [upd_ne hb] at this
              · rcases clB b hb with rfl | hb
                · exact .inl ⟨i, _, hi, hs⟩
                · rcases P.aft.cs b hb with y | y
                  · exact .inl (cl1 b y).1
                  · refine .inr ?_
                    by_cases hb' : b = a
                    · subst hb'; rw [upd_same] at y; cases y
                    · rwa [upd_ne hb'] at y
            refine k v G3 _ ⟨aft, E3, ?_, ?_⟩
            · have rp := P.rep
              have nw := P.new
              cases hl : z.1 with
              | t y => rw [hl] at rp hno; exact Rep.noD hG2a g3n hno rp
              | own c =>
                rw [hl] at rp hno nw
                obtain ⟨p, o, rfl, f1, f2, f3, f4⟩ := rp
                have hp : p ≠ a := fun z => by rw [z, hG2a] at f1; cases f1
                refine ⟨p, o, rfl, by rw [g3n p hp]; exact f1, fun c' => ?_, by rw [upd_ne hp]; exact f3, f4.noD hG2a g3n hno⟩
                rcases clB p c' with y | y
                · exact hp y
                · exact f2 y
              | un => rw [hl] at hpl; cases hpl
              | ref j => rw [hl] at hpl; cases hpl
            · have nw := P.new
              cases hl : z.1 with
              | own c =>
                rw [hl] at nw
                intro p e
                have := nw p e
                by_cases hb : p = a
                · subst hb; rw [upd_same] at this; cases this
                · rwa [upd_ne hb] at this
              | _ => trivial
          | _ => exact (show False from ro).elim
        · cases hd
      · cases hd
  · cases hd
end LW
namespace LW
open PySem PySem.Spec PyProof.Rows L2

/-! ### list.index, list.count -/
def firstEq (y : T) : List T → Option Nat
  | [] => none
  | x :: xs => if T.eqv x y then some 0 else (firstEq y xs).map (· + 1)
theorem firstEq_spec {y : T} : ∀ {xs : List T} {j : Nat}, firstEq y xs = some j → (∃ z, xs[j]? = some z ∧ T.eqv z y = true) ∧ ∀ (m : Nat) (z : T), m < j → xs[m]? = some z → T.eqv z y = false
  | [], j, h => by cases h
  | x :: xs, j, h => by
    unfold firstEq at h
    split at h
    · rename_i e
      cases h
      exact ⟨⟨x, rfl, e⟩, fun m z hm => absurd hm (Nat.not_lt_zero m)⟩
    · rename_i e
      cases q : firstEq y xs with
      | none => rw [q] at h; cases h
      | some j' =>
        rw [q] at h
        cases h
        obtain ⟨⟨z, h1, h2⟩, h3⟩ := firstEq_spec q
        refine ⟨⟨z, by simpa using h1, h2⟩, fun m z hm hz => ?_⟩
        cases m with
        | zero => cases hz; simpa using e
        | succ m => exact h3 m z (by have hm2 : m + 1 < j' + 1 := hm; omega) (by simpa using hz)
def vIndex (xs : List T) (y : T) : Option T := if y.shp && (T.lst xs).shp then (firstEq y xs).map fun j => .int (j : Nat) else none
theorem vm_index {K : PySem.W.Frag} {fa : Nat → Addr} : VmT K fa (rIndexD K) vIndex := by
  intro G H a ws v xs y z Q sm r rv hw e k
  unfold vIndex at e
  split at e
  · rename_i hs
    simp only [Bool.and_eq_true] at hs
    cases q : firstEq y xs with
    | none => rw [q] at e; cases e
    | some j =>
      rw [q] at e
      cases e
      obtain ⟨⟨z, h1, h2⟩, h3⟩ := firstEq_spec q
      have cx : T.clns xs = true := by
        have := hs.2
        simp only [T.shp, Bool.and_eq_true, T.cln] at this
        exact this.1
      have cy : y.cln = true := by
        have := hs.1
        simp only [T.shp, Bool.and_eq_true] at this
        exact this.1
      refine ⟨a, v, y.py, T.pys xs, j, z.py, rfl, rfl, .lst (.of hw) (Rep.dps cx (RepAll.mono sm r)), Rep.dp cy rv, T.shaped hs.2, T.shaped hs.1, ?_, h2, fun m z' hm hz' => ?_, k _ (.int _)⟩
      · rw [pys_map, List.getElem?_map, h1]; rfl
      · rw [pys_map, List.getElem?_map] at hz'
        cases q2 : xs[m]? with
        | none => rw [q2] at hz'; cases hz'
        | some w =>
          rw [q2] at hz'
          cases hz'
          exact h3 m w hm q2
  · cases e
def vCountI (xs : List T) (y : T) : Option T := match y with
  | .int k => (asInts xs).map fun ns => .int (ns.count k : Nat)
  | _ => none
theorem vm_countI {K : PySem.W.Frag} {fa : Nat → Addr} : VmT K fa (rCntI K) vCountI := by
  intro G H a ws v xs y z Q sm r rv hw e k
  unfold vCountI at e
  split at e
  · rename_i kk
    cases q : asInts xs with
    | none => rw [q] at e; cases e
    | some ns =>
      rw [q] at e
      cases e
      have := asInts_inv q
      subst this
      have := r.ints
      subst this
      exact ⟨a, ns, kk, rfl, by rw [rv.int_inv], .of hw, k _ (.int _)⟩
  · cases e

/-! ### sorted, pairs of ints -/
def lexLe (a b : Int × Int) : Prop := a.1 < b.1 ∨ (a.1 = b.1 ∧ a.2 ≤ b.2)
instance (a b : Int × Int) : Decidable (lexLe a b) := inferInstanceAs (Decidable (_ ∨ _))
def insP (x : Int × Int) : List (Int × Int) → List (Int × Int)
  | [] => [x]
  | y :: ys => if lexLe x y then x :: y :: ys else y :: insP x ys
def sortP : List (Int × Int) → List (Int × Int)
  | [] => []
  | x :: xs => insP x (sortP xs)
theorem insP_perm (x : Int × Int) : ∀ ys, (insP x ys).Perm (x :: ys)
  | [] => .refl _
  | y :: ys => by
    unfold insP
    split
    · exact .refl _
    · exact ((insP_perm x ys).cons y).trans (List.Perm.swap x y ys)
theorem sortP_perm : ∀ xs, (sortP xs).Perm xs
  | [] => .refl _
  | x :: xs => (insP_perm x _).trans ((sortP_perm xs).cons x)
theorem insP_sorted (x : Int × Int) : ∀ {ys : List (Int × Int)}, ys.Pairwise lexLe → (insP x ys).Pairwise lexLe
  | [], _ => by simp [insP]
  | y :: ys, h => by
    unfold insP
    obtain ⟨h1, h2⟩ := List.pairwise_cons.mp h
    split
    · rename_i hx
      refine List.pairwise_cons.mpr ⟨fun z hz => ?_, h⟩
      rcases List.mem_cons.mp hz with rfl | hz
      · exact hx
      · have := h1 z hz
        unfold lexLe at *
        omega
    · rename_i hx
      refine List.pairwise_cons.mpr ⟨fun z hz => ?_, insP_sorted x h2⟩
      rcases List.mem_cons.mp ((insP_perm x ys).mem_iff.mp hz) with rfl | hz
      · unfold lexLe at *
        omega
      · exact h1 z hz
theorem sortP_sorted : ∀ xs, (sortP xs).Pairwise lexLe
  | [] => .nil
  | x :: xs => insP_sorted x (sortP_sorted xs)
theorem lex_unique : ∀ {xs ys : List (Int × Int)}, xs.Perm ys → xs.Pairwise lexLe → ys.Pairwise lexLe → xs = ys
  | [], ys, p, _, _ => by rw [List.nil_perm.mp p]
  | x :: xs, [], p, _, _ => by have := p.length_eq; simp at this
  | x :: xs, y :: ys, p, h1, h2 => by
    obtain ⟨a1, a2⟩ := List.pairwise_cons.mp h1
    obtain ⟨b1, b2⟩ := List.pairwise_cons.mp h2
    have e : x = y := by
      have m1 : x ∈ y :: ys := p.mem_iff.mp List.mem_cons_self
      have m2 : y ∈ x :: xs := p.mem_iff.mpr List.mem_cons_self
      rcases List.mem_cons.mp m1 with z | z
      · exact z
      · rcases List.mem_cons.mp m2 with w | w
        · exact w.symm
        · have c1 := b1 x z
          have c2 := a1 y w
          unfold lexLe at c1 c2
          exact Prod.ext (by omega) (by omega)
    subst e
    rw [lex_unique (List.Perm.cons_inv p) a2 b2]
theorem srtd_lex {k : V → Int × Int} {ys : List V} (h : SrtO.Srtd (ltP k) ys) : (ys.map k).Pairwise lexLe := by
  refine List.pairwise_map.mpr (List.Pairwise.imp (fun {x y} h => ?_) h)
  have := SrtO.lexB_no.mp h
  unfold lexLe
  omega
/-- the tuples may lie anywhere -/
def PrT (K : PySem.W.Frag) (H : Hp) (x : V) (p : Int × Int) : Prop := ∃ t, x = V.ref t ∧ SqT K H t [.int p.1, .int p.2]
def rSortedPT (K : PySem.W.Frag) : List V → Hp → VK → Prop := fun vs H Q => ∃ (a : Addr) (xs : List V) (ps : List (Int × Int)), vs = [V.ref a] ∧ SqL K H a xs ∧ xs.length = ps.length ∧ (∀ z ∈ xs.zip ps, PrT K H z.1 z.2) ∧
  ∀ ys p, ys.length = ps.length → (∀ z ∈ ys.zip (sortP ps), z ∈ xs.zip ps) → H p = none → Q (.ref p) (upd H p (.lst ys))
section
variable {X : Cx}
open Classical in
theorem cr_sortedPT : CallR X (.builtin "sorted") (rSortedPT X.K) := by
  intro pins s σ H vs us Q I r h
  obtain ⟨a, xs, ps, rfl, hs, hlen, hz0, q⟩ := h
  let k : V → Int × Int := fun v => if h : ∃ p : Int × Int, PrT X.K H v p then h.choose else (0, 0)
  have kz : ∀ v p, PrT X.K H v p → k v = p := fun v p hp => by
    have hex : ∃ p : Int × Int, PrT X.K H v p := ⟨p, hp⟩
    have e1 : k v = hex.choose := dif_pos hex
    obtain ⟨t, rfl, st⟩ := hp
    obtain ⟨t', et, st'⟩ := hex.choose_spec
    cases et
    have := I.tuple_inj st st'
    simp only [List.cons.injEq, V.int.injEq, and_true] at this
    rw [e1]
    exact Prod.ext this.1.symm this.2.symm
  have hmap : ps = xs.map k := by
    refine List.ext_getElem? fun i => ?_
    rw [List.getElem?_map]
    cases e1 : xs[i]? with
    | none => rw [List.getElem?_eq_none_iff] at e1; rw [Option.map_none, List.getElem?_eq_none_iff]; omega
    | some v =>
      have hi := (List.getElem?_eq_some_iff.mp e1).1
      have hi2 : i < ps.length := by omega
      have e2 : ps[i]? = some ps[i] := List.getElem?_eq_getElem hi2
      have hm : (v, ps[i]) ∈ xs.zip ps := List.mem_of_getElem? (List.getElem?_zip_eq_some.mpr ⟨e1, e2⟩)
      rw [e2, Option.map_some, kz v _ (hz0 _ hm)]
  have hx : ∀ x ∈ xs, ∃ t, x = V.ref t ∧ SqT X.K H t [.int (k x).1, .int (k x).2] := fun x m => by
    obtain ⟨i, hi⟩ := List.getElem?_of_mem m
    have hm : (x, k x) ∈ xs.zip ps := List.mem_of_getElem? (i := i) (List.getElem?_zip_eq_some.mpr ⟨hi, by rw [hmap, List.getElem?_map, hi]; rfl⟩)
    exact hz0 _ hm
  obtain ⟨its, rv, hl, hz⟩ := I.list hs
  rw [Vals.ref1 r]
  obtain ⟨e1, e2⟩ := refs_back rv fun x m => let ⟨t, e, _⟩ := hx x m; ⟨t, e⟩
  refine SrtO.sorted_pairsO (k := fun u => k (backV u)) hl.isList (by rw [← rv.length]; exact hz) (fun v hv => ?_) fun h' d out h1 h2 kp hd hn => ?_
  · obtain ⟨t, rfl⟩ := e2 v hv
    obtain ⟨t', e, ht⟩ := hx (V.ref t) (by rw [e1]; exact List.mem_map.mpr ⟨_, hv, rfl⟩)
    cases e
    obtain ⟨its2, r2, ⟨o, ho, hc, n, hd⟩, _⟩ := I.tuple ht
    obtain ⟨u1, u2, rfl, ⟨t1, rfl⟩, ⟨t2, rfl⟩⟩ := vals2 r2
    exact ⟨t, o, t1, t2, n, rfl, ho, hc, hd⟩
  · have h3 : ∀ u ∈ out, ∃ a, u = Value.ref a := fun u hu => e2 u (h2.perm.mem_iff.mp hu)
    obtain ⟨n, hn⟩ := hn
    have hb : SrtO.Stb (ltP k) (out.map backV) xs := by
      rw [e1]
      exact SrtO.Stb.map (ltP_swo k) backV h2
    have hsr : SrtO.Srtd (ltP k) (out.map backV) := SrtO.srtd_map h1
    have hk : (out.map backV).map k = sortP ps := lex_unique (((hb.perm.map k).trans (by rw [hmap])).trans (sortP_perm ps).symm) (srtd_lex hsr) (sortP_sorted ps)
    refine ⟨.ref d, upd H d (.lst (out.map backV)), I.laid (t' := s.toks) kp hd ⟨by rw [hb.len]; exact hz, out, n, vals_back h3, hn⟩, rfl, q _ d (by rw [hb.len]; exact hlen) (fun z hz => ?_) (I.hok.fresh hd)⟩
    rw [← hk] at hz
    obtain ⟨i, hi⟩ := List.getElem?_of_mem hz
    obtain ⟨f1, f2⟩ := List.getElem?_zip_eq_some.mp hi
    rw [List.getElem?_map, f1, Option.map_some] at f2
    have f2 := Option.some.inj f2
    have hm : z.1 ∈ xs := hb.perm.mem_iff.mp (List.mem_of_getElem? f1)
    obtain ⟨j, hj⟩ := List.getElem?_of_mem hm
    refine List.mem_of_getElem? (i := j) (List.getElem?_zip_eq_some.mpr ⟨hj, ?_⟩)
    rw [hmap, List.getElem?_map, hj, Option.map_some, f2]
end
def asPairs : List T → Option (List (Int × Int))
  | [] => some []
  | .tup [.int i, .int j] :: xs => (asPairs xs).map fun ps => (i, j) :: ps
  | _ => none
def pairT (p : Int × Int) : T := .tup [.int p.1, .int p.2]
theorem asPairs_map : ∀ ps : List (Int × Int), asPairs (ps.map pairT) = some ps
  | [] => rfl
  | p :: ps => by simp [asPairs, pairT, show asPairs (ps.map pairT) = some ps from asPairs_map ps]
theorem asPairs_inv : ∀ {xs : List T} {ps : List (Int × Int)}, asPairs xs = some ps → xs = ps.map pairT
  | [], ps, h => by cases h; rfl
  | x :: xs, ps, h => by
    unfold asPairs at h
    split at h
    · rename_i e; cases e
    · rename_i i j ys e
      cases e
      cases q : asPairs xs with
      | none => rw [q] at h; cases h
      | some qs =>
        rw [q] at h
        cases h
        rw [asPairs_inv q]
        rfl
    · cases h
theorem RepAll.zip_of {K : PySem.W.Frag} {fa : Nat → Addr} {G : Hp} : ∀ {ts : List T} {vs : List V}, vs.length = ts.length → (∀ z ∈ vs.zip ts, Rep K fa G z.1 z.2) → RepAll K fa G vs ts
  | [], [], _, _ => .nil
  | t :: ts, v :: vs, hl, h => .cons (h (v, t) (by simp)) (RepAll.zip_of (by simpa using hl) fun z hz => h z (by rw [List.zip_cons_cons]; exact List.mem_cons_of_mem _ hz))
  | [], _ :: _, hl, _ => by simp at hl
  | _ :: _, [], hl, _ => by simp at hl
theorem RepAll.zip_to {K : PySem.W.Frag} {fa : Nat → Addr} {G : Hp} : ∀ {ts : List T} {vs : List V}, RepAll K fa G vs ts → ∀ z ∈ vs.zip ts, Rep K fa G z.1 z.2
  | [], _, h, z, hz => by cases h; simp at hz
  | t :: ts, _, h, z, hz => by
    cases h with
    | cons a b =>
      rw [List.zip_cons_cons] at hz
      rcases List.mem_cons.mp hz with rfl | hz
      · exact a
      · exact RepAll.zip_to b z hz
theorem zip_mapT {α β γ : Type} (f : β → γ) : ∀ (xs : List α) (ys : List β), xs.zip (ys.map f) = (xs.zip ys).map fun z => (z.1, f z.2)
  | [], _ => by simp
  | _ :: _, [] => by simp
  | x :: xs, y :: ys => by simp [zip_mapT f xs ys]
theorem pair_rep {K : PySem.W.Frag} {fa : Nat → Addr} {G : Hp} {v : V} {p : Int × Int} (r : Rep K fa G v (pairT p)) : PrT K G v p := by
  cases (show Rep K fa G v (.tup [.int p.1, .int p.2]) from r) with
  | tup s a =>
    cases a with
    | cons a1 a2 =>
      cases a2 with
      | cons a2 a3 =>
        cases a3
        cases a1
        cases a2
        exact ⟨_, rfl, .of s⟩
def gSortP (ρ : REnv) (l : L) : Option L := ((l.lview ρ).bind asPairs).map fun ps => .own (.lst ((sortP ps).map pairT))
theorem unt_sortP {K : PySem.W.Frag} {fa : Nat → Addr} : UnT K fa (fun x H Q => rSortedPT K [x] H Q) gSortP := by
  intro C0 G0 H0 G H σ ρ v1 l1 l Q O e k
  cases q : l1.lview ρ with
  | none => simp [gSortP, q] at e
  | some xs =>
    cases q1 : asPairs xs with
    | none => simp [gSortP, q, q1] at e
    | some ps =>
      simp [gSortP, q, q1] at e
      subst e
      have := asPairs_inv q1
      subst this
      obtain ⟨a, ws, rfl, hp, rp⟩ := lview_ok O.env O.r1 q
      have hl : ws.length = ps.length := by rw [rp.length, List.length_map]
      have zr := RepAll.zip_to rp
      rw [zip_mapT] at zr
      refine ⟨a, ws, ps, rfl, .of hp, hl, fun z hz => ?_, fun ys p hly hzy hn => k _ _ _ (O.toAt.lstR hn (RepAll.zip_of (by rw [List.length_map, (sortP_perm ps).length_eq]; exact hly) ?_))⟩
      · obtain ⟨t, e1, e2⟩ := pair_rep (zr _ (List.mem_map.mpr ⟨z, hz, rfl⟩))
        exact ⟨t, e1, same_sqT O.env.same e2⟩
      · rw [zip_mapT]
        intro z hz
        obtain ⟨w, hw, rfl⟩ := List.mem_map.mp hz
        exact zr _ (List.mem_map.mpr ⟨w, hzy w hw, rfl⟩)
end LW
namespace LW
open PySem PySem.Spec PyProof.Rows L2

/-! ### set(xs), xs a list of ints -/
/-- the empty set as it is made -/
abbrev nset (w : World) : Obj := { cls := .type "set", dict := none, data := .set #[] 0 (.fresh 0 0 (!w.params.followText "set-order")) }
abbrev hp1 (w : World) (s : Shared) : Heap := s.heap.push (nset w)
abbrev sh1 (w : World) (s : Shared) : Shared := { s with heap := hp1 w s }
theorem hp1_at {w : World} {s : Shared} : (hp1 w s).get? s.heap.objs.size = some (nset w) := Heap.get?_push_size _ rfl
theorem hp1_sz {w : World} {s : Shared} : (hp1 w s).objs.size = s.heap.objs.size + 1 := Heap.size_push ..
theorem int_item {xs : Array Value} {ns : List Int} (hi : IntsAre xs.toList ns) (hn : xs.size = ns.length) (i : Nat) (v : Value) (hv : xs[i]? = some v) : ∃ k t, ns[i]? = some k ∧ v = .int k t := by
  have lt : i < ns.length := by
    have := (Array.getElem?_eq_some_iff.mp hv).1
    omega
  obtain ⟨t, e⟩ := PyProof.Rows.IntsAre.int_at hi i v (by rw [Array.getElem?_toList, hv])
  have e2 : ns[i]? = some ns[i] := List.getElem?_eq_getElem lt
  exact ⟨ns[i], t, e2, by rw [e, List.getD_eq_getElem?_getD, e2]; rfl⟩
/-- what the filled set is, where it stands -/
def Filled (w : World) (s : Shared) (ns : List Int) (h2 : Heap) (n : Nat) : Prop := SetR w h2 s.heap.objs.size (fun j => decide (j ∈ ns)) n ∧ n ≤ ns.length ∧ ∀ b o, s.heap.get? b = some o → h2.get? b = some o
section
variable {P : Program} {w : World} {A : Around} {E : Value → Shared → Prop} {s : Shared}
set_option maxHeartbeats 3200000 in
theorem setl_call {l : Addr} {xs : Array Value} (ns : List Int) {Q : Value → Shared → Prop} (hA : A.handled = none) (hL : s.heap.IsList l xs) (hi : IntsAre xs.toList ns) (few : ns.length + 1 < scanBound)
    (kk : ∀ (h2 : Heap) (tk n : Nat), Filled w s ns h2 n → Q (.ref s.heap.objs.size) { s with heap := h2, toks := tk }) : wpAny (model P w) A (call (.type "set") [.ref l]) Q E s := by
  have sz : xs.size = ns.length := by have := IntsAre.length hi; rwa [Array.length_toList] at this
  have ⟨c, tl, m0⟩ := F.called_set.mro
  have m1 := F.called_set.made; have m2 := F.called_set.sub; have m3 := F.called_set.notType; have m4 := F.called_set.canCreate; have m5 := F.typeCall_set_1 (.ref l)
  refine wpAny_call (codeAny_of_tree (show wpAny _ _ (callAny (.type "set") _) _ _ _ from wpAny_pure ⟨Code.quiet_builtin _ (by decide +kernel), codeAny_builtin F.entry_type_call ?_⟩))
  rw [Around.under_plain (weight_type_call_type "set" [.ref l] []) rfl]
  repeat any_goals first | assumption | wp_step
  -- the new set
  refine codeAny_mono (code_set_led1 (.ref l) (E := E) (Q₁ := fun v s1 => v = .ref s.heap.objs.size ∧ s1 = sh1 w s) ⟨rfl, rfl⟩) fun r s1 hr => ?_
  rcases r with e | fl
  · exact hr
  cases fl with
  | next => exact hr.elim
  | brk => exact hr.elim
  | cont => exact hr.elim
  | ret v =>
    obtain ⟨rfl, rfl⟩ := hr
    have ty : Shared.TypeIs (sh1 w s) (.ref s.heap.objs.size) "set" := ⟨_, hp1_at, rfl⟩
    have n1 := F.called_set.init.lookup; have n2 := F.called_set.init.bind (.ref s.heap.objs.size)
    repeat any_goals first | assumption | wp_step
    -- its __init__
    refine codeAny_mono (codeAny_call_builtin (R := wants (fun v s2 => v = .none ∧ ∃ h2 tk n, s2 = { s with heap := h2, toks := tk } ∧ Filled w s ns h2 n) E) F.called_set.init.plain F.entry_set_init (check_set_init_1 ty ?_)) fun r s2 hr => ?_
    · obtain ⟨⟨oc, od, ot, os⟩, g1, g2, g3, g4⟩ := hL
      simp only at g2 g4
      subst g2 g4
      have at1 : (hp1 w s).get? l = some { cls := .type "list", dict := od, data := .seq xs g3, slots := os } := Heap.get?_push_of_some _ g1
      have L1 : (hp1 w s).IsList l xs := ⟨_, at1, rfl, g3, rfl⟩
      have u1 := F.sub_list_set; have u2 := F.sub_list_frozenset; have u3 : (Value.type "list" == Value.type "dict") = false := by decide
      unfold Builtin.«set.__init__» noKeywords Builtin.Frozenset.updateFrom
      generalize hq : pyIter = PI
      wp_walk
      subst hq
      refine wpAny_pyIter_list L1 (wpAny_bind (wpAny_runValue ?_))
      have lt := Heap.lt_size g1
      have hA3 : A.in1.in1.in1.handled = none := by simp [hA]
      have d1 : l ≠ (hp1 w s).objs.size := hp1_sz ▸ Nat.ne_of_lt (Nat.lt_succ_of_lt lt)
      have d2 : s.heap.objs.size ∉ [(hp1 w s).objs.size, l] := by
        simp only [hp1_sz, List.mem_cons, List.not_mem_nil, or_false, not_or]
        exact ⟨Nat.ne_of_lt (Nat.lt_succ_self _), Nat.ne_of_gt lt⟩
      refine set_update_ints ((Walks.list hA3 _ l d1 xs).toS) s.heap.objs.size d2 ns sz few (int_item hi sz) (xs.size - 0) 0 _ (by omega) (Nat.zero_le _) ⟨⟨_, Heap.get?_push_size _ rfl, rfl, rfl⟩, (L1.push _)⟩ ?first ?rest
      case first => exact ⟨0, Nat.le_refl 0, setR_new_at (Heap.get?_push_of_some _ hp1_at)⟩
      case rest =>
        rintro ⟨h2, x1, x2, tk, x3⟩ n hm hn hS
        obtain rfl : x1 = s.gens := hm.gens
        obtain rfl : x2 = s.drawn := hm.drawn
        obtain rfl : x3 = s.os := hm.os
        refine wpAny_pure (show wpAny _ _ (ret Value.none) _ _ _ from wpAny_pure ⟨rfl, h2, tk, n, rfl, hS, sz ▸ hn, fun b o e => ?_⟩)
        refine hm.heap b o ?_ (Heap.get?_push_of_some _ (Heap.get?_push_of_some _ e))
        have lb := Heap.lt_size e
        simp only [hp1_sz, List.mem_cons, List.not_mem_nil, or_false, not_or]
        exact ⟨Nat.ne_of_lt lb, Nat.ne_of_lt (Nat.lt_succ_of_lt lb)⟩
    · rcases r with e | fl
      · exact hr
      cases fl with
      | next => exact hr.elim
      | brk => exact hr.elim
      | cont => exact hr.elim
      | ret v =>
        obtain ⟨rfl, h2, tk, n, rfl, hF⟩ := hr
        repeat any_goals first | assumption | wp_step
        exact kk _ _ _ hF
end
end LW
namespace LW
open PySem PySem.Spec PyProof.Rows L2

def insU (x : Int) : List Int → List Int
  | [] => [x]
  | y :: ys => if x < y then x :: y :: ys else if x = y then y :: ys else y :: insU x ys
def sortU : List Int → List Int
  | [] => []
  | x :: xs => insU x (sortU xs)
theorem mem_insU {x k : Int} : ∀ {ys : List Int}, k ∈ insU x ys ↔ k = x ∨ k ∈ ys
  | [] => by simp [insU]
  | y :: ys => by
    unfold insU
    split
    · simp
    · split
      · rename_i e; subst e; simp
      · simp [mem_insU (ys := ys)]
        constructor
        · rintro (h | h | h)
          · exact .inr (.inl h)
          · exact .inl h
          · exact .inr (.inr h)
        · rintro (h | h | h)
          · exact .inr (.inl h)
          · exact .inl h
          · exact .inr (.inr h)
theorem mem_sortU {k : Int} : ∀ {xs : List Int}, k ∈ sortU xs ↔ k ∈ xs
  | [] => by simp [sortU]
  | x :: xs => by rw [sortU, mem_insU, mem_sortU, List.mem_cons]
theorem insU_sorted (x : Int) : ∀ {ys : List Int}, ys.Pairwise (· < ·) → (insU x ys).Pairwise (· < ·)
  | [], _ => by simp [insU]
  | y :: ys, h => by
    unfold insU
    obtain ⟨h1, h2⟩ := List.pairwise_cons.mp h
    split
    · rename_i hx
      refine List.pairwise_cons.mpr ⟨fun z hz => ?_, h⟩
      rcases List.mem_cons.mp hz with rfl | hz
      · exact hx
      · have := h1 z hz; omega
    · split
      · exact h
      · refine List.pairwise_cons.mpr ⟨fun z hz => ?_, insU_sorted x h2⟩
        rcases mem_insU.mp hz with rfl | hz
        · omega
        · exact h1 z hz
theorem sortU_sorted : ∀ xs : List Int, (sortU xs).Pairwise (· < ·)
  | [] => .nil
  | x :: xs => insU_sorted x (sortU_sorted xs)
/-- two strictly rising lists of the same members are one -/
theorem rise_unique : ∀ {xs ys : List Int}, (∀ k, k ∈ xs ↔ k ∈ ys) → xs.Pairwise (· < ·) → ys.Pairwise (· < ·) → xs = ys
  | [], [], _, _, _ => rfl
  | [], y :: ys, p, _, _ => by have := (p y).mpr List.mem_cons_self; cases this
  | x :: xs, [], p, _, _ => by have := (p x).mp List.mem_cons_self; cases this
  | x :: xs, y :: ys, p, h1, h2 => by
    obtain ⟨a1, a2⟩ := List.pairwise_cons.mp h1
    obtain ⟨b1, b2⟩ := List.pairwise_cons.mp h2
    have e : x = y := by
      have m1 : x ∈ y :: ys := (p x).mp List.mem_cons_self
      have m2 : y ∈ x :: xs := (p y).mpr List.mem_cons_self
      rcases List.mem_cons.mp m1 with z | z
      · exact z
      · rcases List.mem_cons.mp m2 with w | w
        · exact w.symm
        · have := b1 x z
          have := a1 y w
          omega
    subst e
    rw [rise_unique (fun k => ?_) a2 b2]
    constructor
    · intro hk
      rcases List.mem_cons.mp ((p k).mp (List.mem_cons_of_mem _ hk)) with rfl | h
      · have := a1 k hk; omega
      · exact h
    · intro hk
      rcases List.mem_cons.mp ((p k).mpr (List.mem_cons_of_mem _ hk)) with rfl | h
      · have := b1 k hk; omega
      · exact h
theorem nodup_le {α : Type} [BEq α] [LawfulBEq α] : ∀ {xs ys : List α}, xs.Nodup → (∀ k ∈ xs, k ∈ ys) → xs.length ≤ ys.length
  | [], _, _, _ => Nat.zero_le _
  | x :: xs, ys, n, h => by
    obtain ⟨n1, n2⟩ := List.nodup_cons.mp n
    have hx : x ∈ ys := h x List.mem_cons_self
    have := nodup_le (xs := xs) (ys := ys.erase x) n2 fun k hk => (List.mem_erase_of_ne fun z => n1 (by rw [← z]; exact hk)).mpr (h k (List.mem_cons_of_mem _ hk))
    rw [List.length_erase_of_mem hx] at this
    have : 0 < ys.length := List.length_pos_of_mem hx
    simp only [List.length_cons]
    omega
theorem rise_nodup {xs : List Int} (h : xs.Pairwise (· < ·)) : xs.Nodup := List.Pairwise.imp (fun {a b} h => by omega) h
/-- set(xs) -/
def rSetL (K : PySem.W.Frag) (w : World) : List V → Hp → VK → Prop := fun xs H Q => ∃ (l : Addr) (ns : List Int), xs = [V.ref l] ∧ SqL K H l (ns.map V.int) ∧ ns.length + 1 < scanBound ∧
  ∀ a, H a = none → Q (.ref a) (upd H a (SetO w a (fun j => decide (j ∈ ns)) (sortU ns).length))
section
variable {X : Cx}
theorem cr_setL (hc : X.calm = true) : CallR X (.type "set") (rSetL X.K X.w) := by
  intro pins s σ H xs us Q I r h
  obtain ⟨l, ns, rfl, hl, hb, q⟩ := h
  rw [Vals.ref1 r]
  obtain ⟨its, rv, pl, hz⟩ := I.list hl
  have hn : H s.heap.objs.size = none := I.hok.fresh (Nat.le_refl _)
  refine setl_call (P := X.prog) (w := X.w) ns (I.ok.hd hc) pl.isList (by simpa using ints_of_vals rv) hb fun h' tk c ⟨R, hc2, kp⟩ => ?_
  have hcard : c = (sortU ns).length := by
    obtain ⟨o, es, ep, t, _, _, _, _, nd, mem, _, _, hn2, _⟩ := R
    have e1 : (es.toList.map keyOf).length = c := by rw [List.length_map, Array.length_toList]; exact hn2
    rw [← e1]
    refine Nat.le_antisymm (nodup_le nd fun k hk => ?_) (nodup_le (rise_nodup (sortU_sorted ns)) fun k hk => ?_)
    · exact mem_sortU.mpr (of_decide_eq_true ((mem k).mpr hk))
    · exact (mem k).mp (decide_eq_true (mem_sortU.mp hk))
  subst hcard
  exact ⟨.ref s.heap.objs.size, upd H s.heap.objs.size (SetO X.w s.heap.objs.size (fun j => decide (j ∈ ns)) (sortU ns).length), I.laid (t' := tk) kp (Nat.le_refl _) (setO_new R), rfl, q _ hn⟩
end
/-- sorted(set(xs)), few members -/
def gSortSet (ρ : REnv) (l : L) : Option L := ((l.lview ρ).bind asInts).bind fun ns => if ns.length ≤ 4000 && decide ((sortU ns).length < 64) then some (.own (.lst ((sortU ns).map T.int))) else none
section
variable {X : Cx} {fa : Nat → Addr} {e : Expr} {d : Den} {p1 p2 pos pos2 : Pos}
theorem SE.sortSet (hc : X.calm = true) (hg : Gl X "sorted") (hm : X.mg "sorted" = none) (hg2 : Gl X "set") (hm2 : X.mg "set" = none) (h : SE X fa e d)
    (he : starEach [e] X.env = (false, eval e X.env) :: starEach [] X.env) (he2 : starEach [.Call (.Name "set" p2) [e] [] pos2] X.env = (false, eval (.Call (.Name "set" p2) [e] [] pos2) X.env) :: starEach [] X.env) :
    SE X fa (.Call (.Name "sorted" p1) [.Call (.Name "set" p2) [e] [] pos2] [] pos) (den1 gSortSet d) := by
  obtain ⟨t, pt, rt⟩ := h
  refine ⟨_, pe_callB (cr_sortedSet hc) hg hm PyProof.Rows.boot_sorted (pa_cons (pe_callTy (cr_setL hc) hg2 hm2 PyProof.Rows.boot_set (pa_cons pt pa_nil he) (by decide) (by decide) he rfl) pa_nil he2) (by decide) (by decide) he2 rfl, fun σ G H ρ l ρ' Q E hd k => ?_⟩
  cases q : d ρ with
  | none => simp [den1, q] at hd
  | some z =>
    cases q1 : (z.1.lview z.2).bind asInts with
    | none => simp [den1, q, gSortSet, q1] at hd
    | some ns =>
      by_cases hz : (ns.length ≤ 4000 && decide ((sortU ns).length < 64)) = true
      · simp [den1, q, gSortSet, q1, hz] at hd
        obtain ⟨_, rfl, rfl⟩ := hd
        simp only [Bool.and_eq_true, decide_eq_true_eq] at hz
        refine rt σ G H ρ z.1 z.2 _ E q fun v1 G1 H1 P1 => ?_
        obtain ⟨a, rfl, hs⟩ := ints_at P1.ops1 q1
        refine ⟨a, ns, rfl, hs, by unfold scanBound; omega, fun b hb => ?_⟩
        have A1 : At X.K fa (Cl σ ρ) G H G1 (upd H1 b (SetO X.w b (fun j => decide (j ∈ ns)) (sortU ns).length)) σ z.2 := At.alloc ⟨P1.env, P1.aft⟩ hb
        refine ⟨b, _, _, rfl, upd_same, hz.2, fun ns2 p h1 h2 h3 hp => ?_⟩
        have e2 : ns2 = sortU ns := rise_unique (fun j => by rw [h2, mem_sortU]; simp) h1 (sortU_sorted ns)
        subst e2
        exact k _ _ _ (A1.lstR hp (RepAll.of_ints _)).post
      · simp [den1, q, gSortSet, q1, hz] at hd
        simp at hz
        omega
end
end LW
namespace LW
open PySem PySem.Spec PyProof.Rows L2

/-! ### facts of names, by one Bool each -/
def locO : Option NameKind → Bool
  | some .local => true
  | _ => false
def celO : Option NameKind → Bool
  | some .cell => true
  | _ => false
def visO : Option NameKind → Bool
  | some .local => true
  | some .cell => true
  | some .free => true
  | _ => false
theorem vis_of {sc : Scope} {x : Str} (h : visO (sc.names.lookup x) = true) : Vis sc x := by
  unfold Vis
  cases q : sc.names.lookup x with
  | none => rw [q] at h; cases h
  | some k =>
    rw [q] at h
    cases k <;> first | exact .inl rfl | exact .inr (.inl rfl) | exact .inr (.inr rfl) | cases h
theorem loc_of {sc : Scope} {x : Str} (h : (locO (sc.names.lookup x) || celO (sc.names.lookup x)) = true) : Loc sc x := by
  unfold L2.Loc
  cases q : sc.names.lookup x with
  | none => rw [q] at h; cases h
  | some k =>
    rw [q] at h
    cases k <;> first | exact .inl rfl | exact .inr rfl | cases h
section
variable {X : Cx} {fa : Nat → Addr} {e e2 tg : Expr} {pos p : Pos} {d d1 d2 : Den}
theorem SE.len (hg : Gl X "len") (hm : X.mg "len" = none) (h : SE X fa e d) (he : starEach (e :: []) X.env = (false, eval e X.env) :: starEach [] X.env) : SE X fa (.Call (.Name "len" p) [e] [] pos) (den1 gLen d) :=
  SE.bi1 call_len hg hm PySem.boot_len h unt_len (by decide) (by decide) he
theorem SE.sum (hc : X.calm = true) (hg : Gl X "sum") (hm : X.mg "sum" = none) (h : SE X fa e d) (he : starEach (e :: []) X.env = (false, eval e X.env) :: starEach [] X.env) : SE X fa (.Call (.Name "sum" p) [e] [] pos) (den1 gSum d) :=
  SE.bi1 (cr_sum hc) hg hm PyProof.Rows.boot_sum h unt_sum (by decide) (by decide) he
theorem SE.all (hc : X.calm = true) (hg : Gl X "all") (hm : X.mg "all" = none) (h : SE X fa e d) (he : starEach (e :: []) X.env = (false, eval e X.env) :: starEach [] X.env) : SE X fa (.Call (.Name "all" p) [e] [] pos) (den1 gAll d) :=
  SE.bi1 (cr_all hc) hg hm PyProof.Rows.boot_all h unt_all (by decide) (by decide) he
theorem SE.any (hc : X.calm = true) (hg : Gl X "any") (hm : X.mg "any" = none) (h : SE X fa e d) (he : starEach (e :: []) X.env = (false, eval e X.env) :: starEach [] X.env) : SE X fa (.Call (.Name "any" p) [e] [] pos) (den1 gAny d) :=
  SE.bi1 (cr_any hc) hg hm PyProof.Rows.boot_any h unt_any (by decide) (by decide) he
theorem SE.maxL (hc : X.calm = true) (hg : Gl X "max") (hm : X.mg "max" = none) (h : SE X fa e d) (he : starEach (e :: []) X.env = (false, eval e X.env) :: starEach [] X.env) : SE X fa (.Call (.Name "max" p) [e] [] pos) (den1 gMaxL d) :=
  SE.bi1 (cr_max hc) hg hm PyProof.Rows.boot_max h unt_maxL (by decide) (by decide) he
theorem SE.minL (hc : X.calm = true) (hg : Gl X "min") (hm : X.mg "min" = none) (h : SE X fa e d) (he : starEach (e :: []) X.env = (false, eval e X.env) :: starEach [] X.env) : SE X fa (.Call (.Name "min" p) [e] [] pos) (den1 gMinL d) :=
  SE.bi1 (cr_min hc) hg hm PyProof.Rows.boot_min h unt_minL (by decide) (by decide) he
theorem SE.abs (hg : Gl X "abs") (hm : X.mg "abs" = none) (h : SE X fa e d) (he : starEach (e :: []) X.env = (false, eval e X.env) :: starEach [] X.env) : SE X fa (.Call (.Name "abs" p) [e] [] pos) (den1 gAbs d) :=
  SE.bi1 call_abs hg hm PyProof.Rows.boot_abs h unt_abs (by decide) (by decide) he
theorem SE.int1 (hg : Gl X "int") (hm : X.mg "int" = none) (h : SE X fa e d) (he : starEach (e :: []) X.env = (false, eval e X.env) :: starEach [] X.env) : SE X fa (.Call (.Name "int" p) [e] [] pos) (den1 gInt d) :=
  SE.ty1 call_int1 hg hm PyProof.Rows.boot_int h unt_int (by decide) (by decide) he
theorem SE.list1 (hg : Gl X "list") (hm : X.mg "list" = none) (h : SE X fa e d) (he : starEach (e :: []) X.env = (false, eval e X.env) :: starEach [] X.env) : SE X fa (.Call (.Name "list" p) [e] [] pos) (den1 gList d) :=
  SE.ty1 call_list_of hg hm PyProof.Rows.boot_list h unt_list (by decide) (by decide) he
theorem SE.tuple1 (hg : Gl X "tuple") (hm : X.mg "tuple" = none) (h : SE X fa e d) (he : starEach (e :: []) X.env = (false, eval e X.env) :: starEach [] X.env) : SE X fa (.Call (.Name "tuple" p) [e] [] pos) (den1 gTuple d) :=
  SE.ty1 call_tuple_of hg hm PyProof.Rows.boot_tuple h unt_tuple (by decide) (by decide) he
/-- sorted: ints, pairs -/
def gSort (ρ : REnv) (l : L) : Option L := match gSortI ρ l with
  | some r => some r
  | none => gSortP ρ l
theorem unt_sort {K : PySem.W.Frag} : UnT K fa (fun x H Q => rSortedI K [x] H Q ∨ rSortedPT K [x] H Q) gSort := by
  intro C0 G0 H0 G H σ ρ v1 l1 l Q O e k
  unfold gSort at e
  split at e
  · rename_i r h
    cases e
    exact .inl (unt_sortI C0 G0 H0 G H σ ρ v1 l1 _ Q O h k)
  · exact .inr (unt_sortP C0 G0 H0 G H σ ρ v1 l1 l Q O e k)
theorem SE.sorted (hg : Gl X "sorted") (hm : X.mg "sorted" = none) (h : SE X fa e d) (he : starEach (e :: []) X.env = (false, eval e X.env) :: starEach [] X.env) : SE X fa (.Call (.Name "sorted" p) [e] [] pos) (den1 gSort d) :=
  SE.bi1 (r := fun xs H Q => rSortedI X.K xs H Q ∨ rSortedPT X.K xs H Q) (cr_sortedI.or cr_sortedPT) hg hm PyProof.Rows.boot_sorted h unt_sort (by decide) (by decide) he
theorem SE.max2 (hc : X.calm = true) (hg : Gl X "max") (hm : X.mg "max" = none) (h : SE X fa e d1) (h2 : SE X fa e2 d2) (he : starEach (e :: [e2]) X.env = (false, eval e X.env) :: starEach [e2] X.env) (he2 : starEach (e2 :: []) X.env = (false, eval e2 X.env) :: starEach [] X.env) (hpl : (backTo pos (starEach [e2] X.env)).any (·.1) = false) : SE X fa (.Call (.Name "max" p) [e, e2] [] pos) (den2 gMax2 d1 d2) :=
  SE.bi2 (call_max2 hc) hg hm PyProof.Rows.boot_max h h2 opt_max2 (by decide) (by decide) he he2 hpl
theorem SE.min2 (hc : X.calm = true) (hg : Gl X "min") (hm : X.mg "min" = none) (h : SE X fa e d1) (h2 : SE X fa e2 d2) (he : starEach (e :: [e2]) X.env = (false, eval e X.env) :: starEach [e2] X.env) (he2 : starEach (e2 :: []) X.env = (false, eval e2 X.env) :: starEach [] X.env) (hpl : (backTo pos (starEach [e2] X.env)).any (·.1) = false) : SE X fa (.Call (.Name "min" p) [e, e2] [] pos) (den2 gMin2 d1 d2) :=
  SE.bi2 (call_min2 hc) hg hm PyProof.Rows.boot_min h h2 opt_min2 (by decide) (by decide) he he2 hpl
end
/-! ### a def that nobody calls with what it does not take -/
section
variable {P : Program} {w : World} {K : PySem.W.Frag} {mg : Str → Option Value} {base : Heap} {fa : Nat → Addr} {k : Nat} {x qual : Str} {st : Stmt} {f : Addr} {fd : FuncData} {N ps : List Str}
theorem fn_none (F : Fun K x qual st f fd) (S : FnScope N ps (defScope st)) (hmg : mg x = some (.ref f)) (hb : Binds K fd ps []) : Fn P w K mg base fa (k + 1) x ps.length (pureF fun _ => none) := by
  refine ⟨f, fd, ps, F.ok S (fun vs H Q E q => q.1) (fun cdv A outer s H vs Q E hr q => ?_), hmg, F.kp, hb⟩
  obtain ⟨_, G, ls, r, ls', _, e, _⟩ := q
  unfold pureF at e
  cases q2 : allT ls <;> simp [q2] at e
end
end LW
namespace LW
open PySem PySem.Spec PyProof.Rows L2

theorem room1 {k : Nat} {A : Around} (r : Room k A) : A.units + 1 < cLine := by have := r.un; omega
theorem room64 {k : Nat} {A : Around} (r : Room k A) : A.units + 64 < cLine := by have := r.un; omega
theorem room65 {k : Nat} {A : Around} (r : Room k A) : A.units + 65 < cLine := by have := r.un; omega
section
variable {X : Cx} {fa : Nat → Addr} {e e2 tg : Expr} {pos p : Pos} {d d1 d2 de : Den}
theorem SE.v (i : Nat) {x : Str} (hN : X.N[i]? = some x) (hv : visO (X.env.scope.names.lookup x) = true) (hd : (x == ("__debug__" : Str)) = false) (hcd : (x == ("__classdict__" : Str)) = false) : SE X fa (.Name x pos) (gVar i) := SE.var hN (vis_of hv) hd hcd
theorem lf_of {x : Str} (h : (X.fn x || locO (X.env.scope.names.lookup x)) = true) : X.fn x = true ∨ X.env.scope.names.lookup x = some .local := by
  cases q : X.fn x with
  | true => exact .inl rfl
  | false =>
    rw [q] at h
    right
    cases q2 : X.env.scope.names.lookup x with
    | none => rw [q2] at h; cases h
    | some k =>
      rw [q2] at h
      cases k <;> first | rfl | cases h
theorem SG.n {i : Nat} {x : Str} (hN : X.N.Nodup) (hi : X.N[i]? = some x) (hx : (locO (X.env.scope.names.lookup x) || celO (X.env.scope.names.lookup x)) = true) (hf : (X.fn x || locO (X.env.scope.names.lookup x)) = true) : SG X fa (.Name x pos) [i] (gNameT i) := SG.name hN hi (loc_of hx) (lf_of hf)
theorem SS.st {i : Nat} {x : Str} {pos' : Pos} (hN : X.N.Nodup) (hi : X.N[i]? = some x) (hx : (locO (X.env.scope.names.lookup x) || celO (X.env.scope.names.lookup x)) = true) (h : SE X fa e de) (hs : swapsWith e (some (.Name x pos')) pos.line X.env = pure false) (hf : (X.fn x || locO (X.env.scope.names.lookup x)) = true) :
    SS X fa (.Assign [.Name x pos'] e pos) [i] (dSet i de) := SS.set hN hi (loc_of hx) h hs (lf_of hf)
/-- a value that is a bool, as a test -/
theorem SE.blT (h : SE X fa e d) (he : ∀ whole, isTrue e X.env whole = (do let v ← whole; standAt e.pos; holding [v] (truthy v))) : ST X fa e (dTru d) := SE.truth h he
theorem ST.cmpB {op : CmpOp} {g : REnv → L → L → Option Bool} {a b : Expr} (h1 : SE X fa a d1) (h2 : SE X fa b d2) (hc : CmpR X fa op g) (hm : behindInMarks op b = false) : ST X fa (.Compare a [op] [b] pos) (dBl (dBor (den2 (gB g) d1 d2))) := by
  obtain ⟨r, p, q⟩ := hc.ex
  obtain ⟨ta, pa, ra⟩ := h1
  obtain ⟨tb, pb, rb⟩ := h2
  exact ⟨_, pt_cmpR p pa pb hm, test_read (bor_read (two_read ra rb q.opt))⟩
theorem SE.lc {elt tg iter : Expr} {ifs : List Expr} {scope : Scope} {own : List (Str × Nat)} {vs : List Nat} {pos : Pos} {src : DenI} {as : List Nat} {g : DenG} {dt : DenT} {de : Den} (hvs : own.map (·.2) = vs) (hc : X.calm = true) (hN : X.N.Nodup) (hi : SI X fa tg iter src)
    (ok : BlkOk X.N X.env.scope scope own) (has : ∀ i ∈ as, i ∈ vs)
    (hg : ∀ (s : Shared) (H : Hp) (C : Addr) (cl : List (Str × Addr)) (fp : List Addr), SG (X.blk s H scope (compEnvC scope cl C X.env) fp) fa tg as g)
    (ht : ∀ (s : Shared) (H : Hp) (C : Addr) (cl : List (Str × Addr)) (fp : List Addr), STs (X.blk s H scope (compEnvC scope cl C X.env) fp) fa ifs dt)
    (he : ∀ (s : Shared) (H : Hp) (C : Addr) (cl : List (Str × Addr)) (fp : List Addr), SE (X.blk s H scope (compEnvC scope cl C X.env) fp) fa elt de) (hs : ∀ x, foldedSetIterable iter X.env x = pure x) :
    SE X fa (.ListComp elt [⟨tg, iter, ifs, 0⟩] scope pos) (compD src vs g dt de) := by
  subst hvs
  exact SE.of (SE.comp hc hN hi ok has hg ht he hs).1
theorem SS.lc {i : Nat} {y : Str} {py : Pos} {elt tg iter : Expr} {ifs : List Expr} {scope : Scope} {own : List (Str × Nat)} {vs : List Nat} {pos spos : Pos} {src : DenI} {cs : List Nat} {g : DenG} {dt : DenT} {dd : Den} (hvs : own.map (·.2) = vs) (hc : X.calm = true) (hN : X.N.Nodup) (hy : X.N[i]? = some y) (hyl : X.env.scope.names.lookup y = some .local)
    (hsw : swapsWith (.ListComp elt [⟨tg, iter, ifs, 0⟩] scope pos) (some (.Name y py)) spos.line X.env = pure true) (hi : SI X fa tg iter src)
    (ok : BlkOk X.N X.env.scope scope own) (has : ∀ i ∈ cs, i ∈ vs)
    (hg : ∀ (s : Shared) (H : Hp) (C : Addr) (cl : List (Str × Addr)) (fp : List Addr), SG (X.blk s H scope (compEnvC scope cl C X.env) fp) fa tg cs g)
    (ht : ∀ (s : Shared) (H : Hp) (C : Addr) (cl : List (Str × Addr)) (fp : List Addr), STs (X.blk s H scope (compEnvC scope cl C X.env) fp) fa ifs dt)
    (he : ∀ (s : Shared) (H : Hp) (C : Addr) (cl : List (Str × Addr)) (fp : List Addr), SE (X.blk s H scope (compEnvC scope cl C X.env) fp) fa elt dd) (hs : ∀ x, foldedSetIterable iter X.env x = pure x) :
    SS X fa (.Assign [.Name y py] (.ListComp elt [⟨tg, iter, ifs, 0⟩] scope pos) spos) [i] (dSet i (compD src vs g dt dd)) := by
  subst hvs
  exact SS.setC hc hN hy hyl hsw hi ok has hg ht he hs
end
/-- the law's own def: the function object stays in sight -/
structure FnL (P : Program) (w : World) (K : PySem.W.Frag) (mg : Str → Option Value) (base : Heap) (fa : Nat → Addr) (k : Nat) (f : Addr) (fd : FuncData) (ps : List Str) (m : DenF) : Prop where
  ok : FnOk P w K mg base CX0 k f fd ps (spM K fa ps.length m)
theorem fn_pureL {P : Program} {w : World} {K : PySem.W.Frag} {mg : Str → Option Value} {base : Heap} {fa : Nat → Addr} {k : Nat} {x qual : Str} {st : Stmt} {f : Addr} {fd : FuncData} {N ps : List Str} {as : List Nat} {d : DenS} (F : Fun K x qual st f fd) (S : FnScope N ps (defScope st))
    (h : ∀ (cdv : Value) (A : Around) (outer : List Env) (s : Shared) (H : Hp) (E : XK), Room k (A.deeper (envOfC qual (defScope st) s.heap.objs.size f cdv)) →
      SSs (cxOf CX0 P w K mg base N qual (defScope st) f cdv A outer s H E).nox fa (defBody st) as d) : FnL P w K mg base fa (k + 1) f fd ps (pureF (bodyP ps.length N.length d)) :=
  ⟨fn_pureK F S h⟩
end LW
namespace LW
open PySem PySem.Spec PyProof.Rows L2

/-! ### meanings, evaluated -/
theorem dSeq_nx {d d' : DenS} {ρ ρ' : REnv} (h : d ρ = some (.nx, ρ')) : dSeq d d' ρ = d' ρ' := by simp [dSeq, h]
theorem dSeq_ret {d d' : DenS} {ρ ρ' : REnv} {l : L} (h : d ρ = some (.ret l, ρ')) : dSeq d d' ρ = some (.ret l, ρ') := by simp [dSeq, h]
theorem dRet_eq {d : Den} {ρ ρ' : REnv} {l : L} (h : d ρ = some (l, ρ')) : dRet d ρ = some (.ret l, ρ') := by simp [dRet, h]
theorem dSet_t {i : Nat} {d : Den} {ρ ρ' : REnv} {x : T} (h : d ρ = some (.t x, ρ')) (hi : i < ρ'.length) : dSet i d ρ = some (.nx, ρ'.set i (.t x)) := by simp [dSet, h, stoE, hi]
theorem dSet_o {i : Nat} {d : Den} {ρ ρ' : REnv} {c : OC} (h : d ρ = some (.own c, ρ')) (hi : i < ρ'.length) : dSet i d ρ = some (.nx, ρ'.set i (.own c)) := by simp [dSet, h, stoE, hi]
theorem dIfS_t {c : DenT} {d d' : DenS} {ρ ρ' : REnv} (h : c ρ = some (true, ρ')) : dIfS c d d' ρ = d ρ' := by simp [dIfS, h]
theorem dIfS_f {c : DenT} {d d' : DenS} {ρ ρ' : REnv} (h : c ρ = some (false, ρ')) : dIfS c d d' ρ = d' ρ' := by simp [dIfS, h]
theorem compL_fm {α : Type} {vs : List Nat} {g : DenG} {dt : DenT} {de : Den} {ρ : REnv} (t : α → T) (b : α → Bool) (y : α → T) : ∀ as : List α,
    (∀ a ∈ as, ∃ ρa ρb, g (t a) ρ = some ρa ∧ dt ρa = some (b a, ρb) ∧ (b a = true → ∃ l ρc, de ρb = some (l, ρc) ∧ l.tree = some (y a) ∧ wipeE ρc vs = ρ) ∧ (b a = false → wipeE ρb vs = ρ)) →
    compL vs g dt de (as.map t) ρ = some ((as.filter b).map y, ρ)
  | [], _ => rfl
  | a :: as, h => by
    obtain ⟨ρa, ρb, h1, h2, h3, h4⟩ := h a List.mem_cons_self
    have ih := compL_fm t b y as fun x hx => h x (List.mem_cons_of_mem _ hx)
    rw [List.map_cons]
    cases q : b a with
    | true =>
      obtain ⟨l, ρc, h5, h6, h7⟩ := h3 q
      rw [q] at h2
      simp [compL, h1, h2, h5, h6, h7, ih, q]
    | false =>
      have h7 := h4 q
      rw [q] at h2
      simp [compL, h1, h2, h7, ih, q]
theorem compL_m {α : Type} {vs : List Nat} {g : DenG} {de : Den} {ρ : REnv} (t : α → T) (y : α → T) (as : List α)
    (h : ∀ a ∈ as, ∃ ρa, g (t a) ρ = some ρa ∧ ∃ l ρc, de ρa = some (l, ρc) ∧ l.tree = some (y a) ∧ wipeE ρc vs = ρ) :
    compL vs g dYes de (as.map t) ρ = some (as.map y, ρ) := by
  have := compL_fm (vs := vs) (g := g) (dt := dYes) (de := de) (ρ := ρ) t (fun _ => true) y as fun a ha => by
    obtain ⟨ρa, h1, h2⟩ := h a ha
    exact ⟨ρa, ρa, h1, rfl, fun _ => h2, fun z => by cases z⟩
  rwa [List.filter_eq_self.mpr fun _ _ => rfl] at this
theorem compD_eq {src : DenI} {vs : List Nat} {g : DenG} {dt : DenT} {de : Den} {ρ ρ1 ρ2 : REnv} {xs ys : List T} {ho : Option Nat} (hs : src ρ = some (xs, ho, ρ1)) (hl : compL vs g dt de xs (wipeE (hideO ho ρ1) vs) = some (ys, ρ2)) (hz : ys.length ≤ line) :
    compD src vs g dt de ρ = some (.own (.lst ys), restE ρ1 ρ2 (ho.toList ++ vs)) := by simp [compD, hs, hl, hz]
theorem forL_inv {α β : Type} {g : DenG} {db : DenS} {t : α → T} (Inv : β → REnv → Prop) (f : β → α → β) : ∀ (as : List α), (∀ a ∈ as, ∀ b ρ, Inv b ρ → ∃ ρa ρ', g (t a) ρ = some ρa ∧ db ρa = some (.nx, ρ') ∧ Inv (f b a) ρ') →
    ∀ b ρ, Inv b ρ → ∃ ρ', forL g db (as.map t) ρ = some (.nx, ρ') ∧ Inv (as.foldl f b) ρ'
  | [], _, b, ρ, hI => ⟨ρ, rfl, hI⟩
  | a :: as, h, b, ρ, hI => by
    obtain ⟨ρa, ρ', h1, h2, h3⟩ := h a List.mem_cons_self b ρ hI
    obtain ⟨ρ2, h4, h5⟩ := forL_inv Inv f as (fun x hx => h x (List.mem_cons_of_mem _ hx)) (f b a) ρ' h3
    exact ⟨ρ2, by simp [forL, h1, h2, h4], h5⟩
/-- a loop that returns at the first hit -/
theorem forL_find {α : Type} {g : DenG} {db : DenS} {t : α → T} (Inv : REnv → Prop) (p : α → Bool) (r : α → L) : ∀ (as : List α), (∀ a ∈ as, ∀ ρ, Inv ρ → ∃ ρa ρ', g (t a) ρ = some ρa ∧ ((p a = true ∧ db ρa = some (.ret (r a), ρ')) ∨ (p a = false ∧ db ρa = some (.nx, ρ'))) ∧ Inv ρ') →
    ∀ ρ, Inv ρ → ∃ ρ', Inv ρ' ∧ forL g db (as.map t) ρ = some ((match as.find? p with
      | some a => .ret (r a)
      | none => .nx), ρ')
  | [], _, ρ, hI => ⟨ρ, hI, rfl⟩
  | a :: as, h, ρ, hI => by
    obtain ⟨ρa, ρ', h1, h2, h3⟩ := h a List.mem_cons_self ρ hI
    rcases h2 with ⟨hp, h2⟩ | ⟨hp, h2⟩
    · exact ⟨ρ', h3, by simp [forL, h1, h2, List.find?_cons, hp]⟩
    · obtain ⟨ρ2, h5, h4⟩ := forL_find Inv p r as (fun x hx => h x (List.mem_cons_of_mem _ hx)) ρ' h3
      exact ⟨ρ2, h5, by simp [forL, h1, h2, h4, List.find?_cons, hp]⟩
theorem whileL_steps {c : DenT} {db : DenS} {Pz : REnv → Prop} (Inv : Nat → REnv → Prop) (n : Nat) (h : ∀ i, i < n → ∀ ρ, Inv i ρ → ∃ ρa ρ', c ρ = some (true, ρa) ∧ db ρa = some (.nx, ρ') ∧ Inv (i + 1) ρ')
    (he : ∀ ρ, Inv n ρ → ∃ ρ', c ρ = some (false, ρ') ∧ Pz ρ') : ∀ (m i fuel : Nat), i + m = n → m < fuel → ∀ ρ, Inv i ρ → ∃ ρ', whileL c db fuel ρ = some (.nx, ρ') ∧ Pz ρ'
  | 0, i, fuel, e, hf, ρ, hI => by
    have : i = n := by omega
    subst this
    obtain ⟨ρ', h1, h2⟩ := he ρ hI
    cases fuel with
    | zero => omega
    | succ fuel => exact ⟨ρ', by simp [whileL, h1], h2⟩
  | m + 1, i, fuel, e, hf, ρ, hI => by
    obtain ⟨ρa, ρ', h1, h2, h3⟩ := h i (by omega) ρ hI
    cases fuel with
    | zero => omega
    | succ fuel =>
      obtain ⟨ρ2, h4, h5⟩ := whileL_steps Inv n h he m (i + 1) fuel (by omega) (by omega) ρ' h3
      exact ⟨ρ2, by simp [whileL, h1, h2, h4], h5⟩
theorem asInts_f {α : Type} (f : α → Int) : ∀ as : List α, asInts (as.map fun a => .int (f a)) = some (as.map f)
  | [] => rfl
  | a :: as => by simp [asInts, asInts_f f as]
theorem mulOk_small {i j : Int} (h : -(18446744073709551616) < i) (h2 : i < 18446744073709551616) : mulOk i j = true := by simp [mulOk, h, h2]
theorem mulOk_smallr {i j : Int} (h : -(18446744073709551616) < j) (h2 : j < 18446744073709551616) : mulOk i j = true := by simp [mulOk, h, h2]
theorem atI_pos {α : Type} {xs : List α} {i : Int} {x : α} (h0 : 0 ≤ i) (h : xs[i.toNat]? = some x) : atI xs i = some x := by
  obtain ⟨n, rfl⟩ := Int.eq_ofNat_of_zero_le h0
  exact atI_nat (by simpa using h)
theorem atI_neg {α : Type} {xs : List α} {i : Int} {x : α} (h0 : i < 0) (h1 : 0 ≤ xs.length + i) (h : xs[(xs.length + i).toNat]? = some x) : atI xs i = some x := by
  have e : ixN xs.length i = some (xs.length + i).toNat := by
    unfold ixN
    rw [if_neg (by omega), if_pos (by omega), Int.add_comm]
  rw [atI, e, Option.bind_some, h]
theorem atI_ints {ns : List Int} {i : Int} (h0 : 0 ≤ i) (h1 : i < ns.length) : atI (ns.map T.int) i = some (.int (ns.getD i.toNat 0)) := by
  refine atI_pos h0 ?_
  have : i.toNat < ns.length := by omega
  simp [this]
theorem atI_intsN {ns : List Int} {i : Int} (h0 : i < 0) (h1 : 0 ≤ ns.length + i) : atI (ns.map T.int) i = some (.int (ns.getD (ns.length + i).toNat 0)) := by
  have : (ns.length + i).toNat < ns.length := by omega
  refine atI_neg h0 (by simpa using h1) ?_
  simp [this]
end LW
namespace LW
open PySem
open L2 (atI ixN)

/-! ### lists of ints: equality, shape, slices -/
theorem eqvAll_ii : ∀ a b : List Int, PyData.eqvAll (T.pys (a.map T.int)) (T.pys (b.map T.int)) = decide (a = b)
  | [], [] => rfl
  | [], b :: bs => rfl
  | a :: as, [] => rfl
  | a :: as, b :: bs => by
    simp only [List.map_cons, T.pys, T.py, PyData.eqvAll, PyData.eqv, eqvAll_ii as bs, List.cons.injEq]
    by_cases h : a = b
    · simp [h]
    · simp [h]
theorem eqv_lst (a b : List Int) : T.eqv (.lst (a.map T.int)) (.lst (b.map T.int)) = decide (a = b) := by simp only [T.eqv, T.py, PyData.eqv, eqvAll_ii]
theorem eqv_tup (a b : List Int) : T.eqv (.tup (a.map T.int)) (.tup (b.map T.int)) = decide (a = b) := by simp only [T.eqv, T.py, PyData.eqv, eqvAll_ii]
theorem eqv_int (a b : Int) : T.eqv (.int a) (.int b) = decide (a = b) := by
  simp only [T.eqv, T.py, PyData.eqv]
  by_cases h : a = b
  · simp [h]
  · simp [h]
theorem clns_ii : ∀ a : List Int, T.clns (a.map T.int) = true
  | [] => rfl
  | a :: as => by simp [T.clns, T.cln, clns_ii as]
theorem deps_ii : ∀ a : List Int, T.deps (a.map T.int) = 0
  | [] => rfl
  | a :: as => by simp [T.deps, T.dep, deps_ii as]
theorem shp_lst (a : List Int) : (T.lst (a.map T.int)).shp = true := by simp [T.shp, T.cln, T.dep, clns_ii, deps_ii]
theorem shp_tup (a : List Int) : (T.tup (a.map T.int)).shp = true := by simp [T.shp, T.cln, T.dep, clns_ii, deps_ii]
theorem shp_int (a : Int) : (T.int a).shp = true := rfl
theorem eqOk_lst (a b : List Int) : eqOk (.lst (a.map T.int)) (.lst (b.map T.int)) = true := by simp only [eqOk, shp_lst, Bool.and_self, Bool.or_true]
theorem eqOk_tup (a b : List Int) : eqOk (.tup (a.map T.int)) (.tup (b.map T.int)) = true := by simp only [eqOk, shp_tup, Bool.and_self, Bool.or_true]
theorem eqOk_int (a b : Int) : eqOk (.int a) (.int b) = true := rfl
theorem noLs_ii : ∀ a : List Int, T.noLs (a.map T.int) = true
  | [] => rfl
  | a :: as => by simp [T.noLs, T.noL, noLs_ii as]
theorem noL_own (a : List Int) : (L.own (.lst (a.map T.int))).noL = true := noLs_ii a
theorem noL_tup (a : List Int) : (L.t (.tup (a.map T.int))).noL = true := noLs_ii a
theorem noL_int (a : Int) : (L.t (.int a)).noL = true := rfl
theorem noL_bl (a : Bool) : (L.t (.bl a)).noL = true := rfl
theorem noL_non : (L.t .non).noL = true := rfl
theorem cut_hi (xs : List T) (m : Nat) : cutT xs none (some (m : Int)) = xs.take m := by
  simp only [cutT, HT.sIx_none, HT.sIx_nat, List.drop_zero, Nat.sub_zero]
  by_cases h : m ≤ xs.length
  · rw [Nat.min_eq_left h]
  · rw [Nat.min_eq_right (by omega), List.take_of_length_le (Nat.le_refl _), List.take_of_length_le (by omega)]
theorem cut_lo (xs : List T) (m : Nat) : cutT xs (some (m : Int)) none = xs.drop m := by
  simp only [cutT, HT.sIx_none, HT.sIx_nat]
  by_cases h : m ≤ xs.length
  · rw [Nat.min_eq_left h, List.take_of_length_le (by simp)]
  · rw [Nat.min_eq_right (by omega), List.drop_of_length_le (Nat.le_refl _), List.drop_of_length_le (by omega)]; simp
theorem cut_lh (xs : List T) (m n : Nat) (h : m ≤ xs.length) (h2 : n ≤ xs.length) : cutT xs (some (m : Int)) (some (n : Int)) = (xs.drop m).take (n - m) := by
  simp only [cutT, HT.sIx_nat, Nat.min_eq_left h, Nat.min_eq_left h2]
theorem gLt_e (ρ : REnv) (i j : Int) : gLt ρ (.t (.int i)) (.t (.int j)) = some (decide (i < j)) := rfl
theorem gLe_e (ρ : REnv) (i j : Int) : gLe ρ (.t (.int i)) (.t (.int j)) = some (decide (i ≤ j)) := rfl
theorem gGt_e (ρ : REnv) (i j : Int) : gGt ρ (.t (.int i)) (.t (.int j)) = some (decide (j < i)) := rfl
theorem gGe_e (ρ : REnv) (i j : Int) : gGe ρ (.t (.int i)) (.t (.int j)) = some (decide (j ≤ i)) := rfl
theorem dBor_eq {d : Den} {ρ ρ' : REnv} {l : L} (h : d (frzE ρ) = some (l, ρ')) (n : l.noL = true) : dBor d ρ = some (l, ρ) := by simp [dBor, h, n]
theorem inBig_nat {n : Nat} (h : n < 10000) : inBig (n : Int) = true := by
  unfold inBig big
  simp only [Bool.and_eq_true, decide_eq_true_eq]
  omega
theorem rangeU0 (n : Nat) : rangeU 0 n = (List.range n).map fun i => T.int (i : Nat) := by
  unfold rangeU
  refine List.map_congr_left fun i _ => ?_
  rw [Int.zero_add]
theorem iRange1_j {d : DenA} {ρ ρ' : REnv} {j : Int} (h : d ρ = some ([.int j], ρ')) (hb : inBig j = true) : iRange1 d ρ = some (rangeU 0 j.toNat, none, ρ') := by simp only [iRange1, h, hb, Option.bind_some, if_true]
theorem iRange1_eq {d : Den} {ρ ρ' : REnv} {n : Nat} (h : d ρ = some (.t (.int n), ρ')) (hn : n < 10000) : iRange1 (dCons d dNil) ρ = some ((List.range n).map fun i => T.int (i : Nat), none, ρ') := by
  have e2 : dCons d dNil ρ = some ([.int n], ρ') := by simp only [dCons, dNil, h, Option.bind_some, Option.map_some, L.tree]
  have e3 := iRange1_j e2 (inBig_nat hn)
  rw [Int.toNat_natCast, rangeU0] at e3
  exact e3
theorem foldl_app {α β : Type} (f : α → β) : ∀ (as : List α) (b : List β), as.foldl (fun b a => b ++ [f a]) b = b ++ as.map f
  | [], b => by simp
  | a :: as, b => by simp [foldl_app f as]
/-- a loop that stops by break behind K turns -/
theorem forL_brk {α : Type} {g : DenG} {db : DenS} {t : α → T} (Inv : Nat → REnv → Prop) (K : Nat) (h : ∀ (j : Nat) (a : α) (ρ : REnv), j < K → Inv j ρ → ∃ ρa ρ', g (t a) ρ = some ρa ∧ db ρa = some (if j + 1 = K then .brk else .nx, ρ') ∧ Inv (j + 1) ρ') :
    ∀ (as : List α) (i : Nat), i < K → K ≤ i + as.length → ∀ ρ, Inv i ρ → ∃ ρ', forL g db (as.map t) ρ = some (.nx, ρ') ∧ Inv K ρ'
  | [], i, h1, h2, ρ, hI => by simp at h2; omega
  | a :: as, i, h1, h2, ρ, hI => by
    obtain ⟨ρa, ρ', e1, e2, e3⟩ := h i a ρ h1 hI
    by_cases hK : i + 1 = K
    · rw [if_pos hK] at e2
      subst hK
      exact ⟨ρ', by simp [forL, e1, e2], e3⟩
    · rw [if_neg hK] at e2
      obtain ⟨ρ2, h4, h5⟩ := forL_brk Inv K h as (i + 1) (by omega) (by simp at h2; omega) ρ' e3
      exact ⟨ρ2, by simp [forL, e1, e2, h4], h5⟩
theorem bodyP_own {n m : Nat} {d : DenS} {ts : List T} {ρ' : REnv} {c : OC} (hl : ts.length = n) (h : d (ts.map L.t ++ List.replicate (m - n) L.un) = some (.ret (.own c), ρ')) : bodyP n m d ts = some (.own c) := by simp only [bodyP, hl, h, if_true, Option.bind_some, finP]
theorem bodyP_t {n m : Nat} {d : DenS} {ts : List T} {ρ' : REnv} {x : T} (hl : ts.length = n) (h : d (ts.map L.t ++ List.replicate (m - n) L.un) = some (.ret (.t x), ρ')) : bodyP n m d ts = some (.t x) := by simp only [bodyP, hl, h, if_true, Option.bind_some, finP]
theorem bodyP_ref {n m i : Nat} {d : DenS} {ts : List T} {ρ' : REnv} {c : OC} (hl : ts.length = n) (h : d (ts.map L.t ++ List.replicate (m - n) L.un) = some (.ret (.ref i), ρ')) (h2 : ρ'[i]? = some (.own c)) : bodyP n m d ts = some (.own c) := by simp only [bodyP, hl, h, h2, if_true, Option.bind_some, finP]
theorem dFor_eq {as : List Nat} {src : DenI} {g : DenG} {db : DenS} {ρ ρ1 ρ2 : REnv} {xs : List T} {fl : Fl} (hs : src ρ = some (xs, none, ρ1)) (hl : forL g db xs ρ1 = some (fl, ρ2)) : dFor as src g db ρ = some (fl, ρ2) := by
  simp [dFor, hs, hideO, hl, restE]
theorem getD_app1 {a b : List Int} {i : Nat} (h : i < a.length) : (a ++ b).getD i 0 = a.getD i 0 := by simp [List.getD_eq_getElem?_getD, List.getElem?_append_left h]
theorem getD_app2 {a b : List Int} {i : Nat} (h : a.length ≤ i) : (a ++ b).getD i 0 = b.getD (i - a.length) 0 := by simp [List.getD_eq_getElem?_getD, List.getElem?_append_right h]
theorem forL_ix {α : Type} {g : DenG} {db : DenS} {t : α → T} (Inv : Nat → REnv → Prop) : ∀ (as : List α) (k : Nat), (∀ i a ρ, as[i]? = some a → Inv (k + i) ρ → ∃ ρa ρ', g (t a) ρ = some ρa ∧ db ρa = some (.nx, ρ') ∧ Inv (k + i + 1) ρ') →
    ∀ ρ, Inv k ρ → ∃ ρ', forL g db (as.map t) ρ = some (.nx, ρ') ∧ Inv (k + as.length) ρ'
  | [], k, _, ρ, hI => ⟨ρ, rfl, hI⟩
  | a :: as, k, h, ρ, hI => by
    obtain ⟨ρa, ρ', h1, h2, h3⟩ := h 0 a ρ rfl hI
    obtain ⟨ρ2, h4, h5⟩ := forL_ix Inv as (k + 1) (fun i x ρ hx hI => by
      have := h (i + 1) x ρ (by simpa using hx) (by rw [show k + (i + 1) = k + 1 + i by omega]; exact hI)
      rw [show k + (i + 1) + 1 = k + 1 + i + 1 by omega] at this
      exact this) ρ' h3
    exact ⟨ρ2, by simp [forL, h1, h2, h4], by rw [show k + (a :: as).length = k + 1 + as.length by simp; omega]; exact h5⟩
/-- over range(n) -/
theorem forL_range {g : DenG} {db : DenS} (Inv : Nat → REnv → Prop) (n : Nat) (h : ∀ i ρ, i < n → Inv i ρ → ∃ ρa ρ', g (T.int (i : Nat)) ρ = some ρa ∧ db ρa = some (.nx, ρ') ∧ Inv (i + 1) ρ') (ρ : REnv) (h0 : Inv 0 ρ) :
    ∃ ρ', forL g db ((List.range n).map fun i => T.int (i : Nat)) ρ = some (.nx, ρ') ∧ Inv n ρ' := by
  have := forL_ix (g := g) (db := db) (t := fun i : Nat => T.int (i : Nat)) Inv (List.range n) 0 (fun i a ρ ha hI => by
    have hi : i < n := by
      have := (List.getElem?_eq_some_iff.mp ha).1
      simpa using this
    have : a = i := by
      rw [List.getElem?_range hi] at ha
      exact (Option.some.inj ha).symm
    subst this
    rw [Nat.zero_add] at hI ⊢
    exact h a ρ hi hI) ρ h0
  simpa using this
theorem app_own {xs : List T} {x : T} (h : xs.length < line) : fAppend xs [x] = some (.non, xs ++ [x]) := by simp [fAppend, h]
theorem gDiv_e (ρ : REnv) {i j : Int} (h : 0 < j) (h2 : j < 1073741824) : gDiv ρ (.t (.int i)) (.t (.int j)) = some (.t (.int (i / j))) := by simp only [gDiv, h, h2, decide_true, Bool.and_self, if_true]
theorem gMul_e (ρ : REnv) {i j : Int} (h : mulOk i j = true) : gMul ρ (.t (.int i)) (.t (.int j)) = some (.t (.int (i * j))) := by simp only [gMul, h, if_true]
theorem den1_eq {g : REnv → L → Option L} {d : Den} {ρ ρ1 : REnv} {l1 l : L} (h1 : d ρ = some (l1, ρ1)) (hg : g ρ1 l1 = some l) : den1 g d ρ = some (l, ρ1) := by simp only [den1, h1, hg, Option.bind_some, Option.map_some]
theorem den2_eq {g : REnv → L → L → Option L} {d1 d2 : Den} {ρ ρ1 ρ2 : REnv} {l1 l2 l : L} (h1 : d1 ρ = some (l1, ρ1)) (h2 : d2 ρ1 = some (l2, ρ2)) (hg : g ρ2 l1 l2 = some l) : den2 g d1 d2 ρ = some (l, ρ2) := by simp only [den2, h1, h2, hg, Option.bind_some, Option.map_some]
theorem gMod_e (ρ : REnv) {i j : Int} (h : 0 < j) : gMod ρ (.t (.int i)) (.t (.int j)) = some (.t (.int (i % j))) := by simp only [gMod, h, if_true]
theorem gIx_l (ρ : REnv) {xs : List T} {i : Int} {x : T} (e : atI xs i = some x) : gIx ρ (.t (.lst xs)) (.t (.int i)) = some (.t x) := by simp only [gIx, L.lview, e, Option.bind_some, Option.map_some]
theorem gIx_o (ρ : REnv) {xs : List T} {i : Int} {x : T} {k : Nat} (h : ρ[k]? = some (.own (.lst xs))) (e : atI xs i = some x) : gIx ρ (.ref k) (.t (.int i)) = some (.t x) := by simp only [gIx, L.lview, h, e, Option.bind_some, Option.map_some]
theorem dCallP_eq {n : Nat} {f : List T → Option L} {da : DenA} {ρ ρ1 : REnv} {ts : List T} {r : L} (ha : da ρ = some (ts, ρ1)) (hn : ts.length = n) (hf : f ts = some r) (hr : nor r = some r) : dCallP n f da ρ = some (r, ρ1) := by simp only [dCallP, ha, hn, hf, hr, if_true, Option.bind_some, Option.map_some]
theorem dCons_eq {d : Den} {da : DenA} {ρ ρ1 ρ2 : REnv} {l : L} {x : T} {ts : List T} (h : d ρ = some (l, ρ1)) (e : l.tree = some x) (ha : da ρ1 = some (ts, ρ2)) : dCons d da ρ = some (x :: ts, ρ2) := by simp only [dCons, h, e, ha, Option.bind_some, Option.map_some]
end LW
namespace LW
open PySem PySem.Spec PyProof.Rows L2

/-! ### x = y, where y holds an object of its own and is not asked again before it is stored -/
def dMove (i j : Nat) : DenS := fun ρ => match ρ[j]? with
  | some (.own c) => if i < ρ.length then some (.nx, (ρ.set j .un).set i (.own c)) else none
  | some (.t x) => if i < ρ.length then some (.nx, ρ.set i (.t x)) else none
  | _ => none
section
variable {X : Cx} {fa : Nat → Addr} {e : Expr} {pos pos' : Pos}
theorem SS.move {i j : Nat} {x : Str} (hN : X.N.Nodup) (hi : X.N[i]? = some x) (hx : (locO (X.env.scope.names.lookup x) || celO (X.env.scope.names.lookup x)) = true) (h : SE X fa e (gVar j)) (hs : swapsWith e (some (.Name x pos')) pos.line X.env = pure false) (hf : (X.fn x || locO (X.env.scope.names.lookup x)) = true) :
    SS X fa (.Assign [.Name x pos'] e pos) [i] (dMove i j) := by
  obtain ⟨t, p, r⟩ := h
  refine ⟨_, ps_set hN hi (loc_of hx) p hs (lf_of hf), fun σ G H ρ fl ρ' D E hd k => ?_⟩
  unfold dMove at hd
  split at hd
  · rename_i c q
    split at hd
    · rename_i hl
      cases hd
      refine r σ G H ρ (.ref j) ρ _ E (by simp [gVar, q]) fun v G' H' P => k (σ.set i (some v)) G' H' ?_
      obtain ⟨a, o, e1, g, hh, ro⟩ := P.env.own j c q
      have ev : σ[j]? = some (some v) := P.rep
      rw [e1] at ev; cases ev
      have nc : ¬ Cl σ (ρ.set j .un) a := fun ⟨i', c', f1, f2⟩ => by
        rcases set_get f1 with ⟨_, z⟩ | ⟨n, z⟩
        · cases z
        · exact n (P.env.inj i' j c' c a z q f2 e1)
      have rp : LRep X.K fa G' H' (Cl σ (ρ.set j .un)) σ (.ref a) (.own c) := ⟨a, o, rfl, g, nc, hh, ro⟩
      refine ⟨⟨(P.env.hide j).set_own (by rw [List.length_set]; exact hl) rp, P.aft.gg, P.aft.keep, P.aft.gn, P.aft.there, fun b z => ?_⟩, Slots.set⟩
      rcases Cl.set_own z with z | z
      · rw [z]; exact P.aft.cs a ⟨j, c, q, e1⟩
      · exact P.aft.cs b (Cl.hide z)
    · cases hd
  · rename_i y q
    split at hd
    · rename_i hl
      cases hd
      exact r σ G H ρ (.t y) ρ _ E (by simp [gVar, q]) fun v G' H' P => k (σ.set i (some v)) G' H' (sto_ok P (by simp [stoE, hl]))
    · cases hd
  · cases hd
end

/-- a slot's own list is given away: from now on it is a tree -/
def dFrz (i : Nat) : Den := fun ρ => match ρ[i]? with
  | some (.own (.lst xs)) => some (.t (.lst xs), ρ.set i (.t (.lst xs)))
  | some (.t x) => some (.t x, ρ)
  | _ => none
theorem SE.frz {X : Cx} {fa : Nat → Addr} {e : Expr} {i : Nat} (h : SE X fa e (gVar i)) : SE X fa e (dFrz i) := by
  obtain ⟨t, p, r⟩ := h
  refine ⟨t, p, fun σ G H ρ l ρ' Q E hd k => ?_⟩
  unfold dFrz at hd
  split at hd
  · rename_i xs q
    cases hd
    refine r σ G H ρ (.ref i) ρ _ E (by simp [gVar, q]) fun v G' H' P => ?_
    obtain ⟨a, o, e1, g, hh, ro⟩ := P.env.own i _ q
    have ev : σ[i]? = some (some v) := P.rep
    rw [e1] at ev; cases ev
    cases o with
    | lst vs =>
      have ro : RepAll X.K fa G' vs xs := ro
      have sm : Same G' (upd G' a (.lst vs)) := fun b u e => by rw [upd_ne (ne_of_none e g)]; exact e
      have rp : Rep X.K fa (upd G' a (.lst vs)) (.ref a) (.lst xs) := .lst upd_same (ro.mono sm)
      have hi : i < ρ.length := (List.getElem?_eq_some_iff.mp q).1
      have old : ∀ (j : Nat) (c : OC), (ρ.set i (.t (.lst xs)))[j]? = some (.own c) → j ≠ i ∧ ρ[j]? = some (.own c) := fun j c e => by
        rcases set_get e with ⟨_, z⟩ | z
        · cases z
        · exact z
      refine k _ (upd G' a (.lst vs)) H' ⟨⟨P.aft.gg.trans sm, P.aft.keep, fun b u e n gb => ?_, P.aft.there, fun b z => ?_⟩, ⟨fun b u e => ?_, by rw [List.length_set]; exact P.env.len, fun j x e => ?_, fun j c e => ?_, fun j j' c c' b e1 e2 e3 e4 => ?_⟩, rp, trivial⟩
      · rw [upd_ne (show b ≠ a from fun z => n (by rw [z]; exact ⟨i, _, q, e1⟩))]
        exact P.aft.gn b u e n gb
      · obtain ⟨j, c, f1, f2⟩ := z
        exact P.aft.cs b ⟨j, c, (old j c f1).2, f2⟩
      · by_cases hb : b = a
        · subst hb; rw [upd_same] at e; cases e; exact hh
        · rw [upd_ne hb] at e; exact P.env.same b u e
      · rcases set_get e with ⟨rfl, z⟩ | ⟨n, z⟩
        · cases z; exact ⟨_, e1, rp⟩
        · obtain ⟨v, f1, f2⟩ := P.env.t j x z
          exact ⟨v, f1, f2.mono sm⟩
      · obtain ⟨n, z⟩ := old j c e
        obtain ⟨p, u, f1, f2, f3, f4⟩ := P.env.own j c z
        refine ⟨p, u, f1, ?_, f3, f4.mono sm⟩
        rw [upd_ne (show p ≠ a from fun hp => n (P.env.inj j i c _ a z q (by rw [f1, hp]) e1))]
        exact f2
      · exact P.env.inj j j' c c' b (old j c e1).2 (old j' c' e2).2 e3 e4
    | _ => exact (show False from ro).elim
  · rename_i y q
    cases hd
    exact r σ G H ρ (.t y) ρ _ E (by simp [gVar, q]) k
  · cases hd
/-! ### dicts whose keys are tuples of ints and texts, too -/
def keysOf : List T → Option (List Key)
  | [] => some []
  | x :: xs => x.key.bind fun k => (keysOf xs).map fun ks => k :: ks
def T.tkey : T → Option (List Key)
  | .tup xs => keysOf xs
  | _ => none
abbrev DTs := List (List Key × T)
def getT (kvs : DTs) (k : List Key) : Option T := (kvs.find? fun kv => decide (kv.1 = k)).map (·.2)
def putT (kvs : DTs) (k : List Key) (x : T) : DTs :=
  if (kvs.any fun kv => decide (kv.1 = k)) = true then kvs.map (fun kv => if kv.1 = k then (kv.1, x) else kv) else kvs ++ [(k, x)]
def L.tview (ρ : REnv) : L → Option DTs
  | .own (.dT kvs) => some kvs
  | .ref i => match ρ[i]? with
    | some (.own (.dT kvs)) => some kvs
    | _ => none
  | _ => none
section
variable {K : PySem.W.Frag} {fa : Nat → Addr} {G G' H H' : Hp} {σ : L2.St} {ρ ρ' : REnv} {C C' : Addr → Prop}
abbrev PrT2 (K : PySem.W.Frag) (fa : Nat → Addr) (G : Hp) : List (List Key × V) → DTs → Prop := Paired (fun p q => p.1 = q.1 ∧ Rep K fa G p.2 q.2)
theorem prT_get {k : List Key} : ∀ {vs : List (List Key × V)} {kvs : DTs}, PrT2 K fa G vs kvs → (∀ x, getT kvs k = some x → ∃ v, valV vs k = some v ∧ Rep K fa G v x) ∧ (getT kvs k = none → valV vs k = none)
  | _, _, .nil => ⟨fun x e => (by cases e), fun _ => rfl⟩
  | _, _, .cons (a := p) (b := q) a b => by
    have ⟨h1, h2⟩ := prT_get (k := k) b
    by_cases e : q.1 = k
    · have e' : p.1 = k := a.1.trans e
      have eg : ∀ r : DTs, getT (q :: r) k = some q.2 := fun r => by simp [getT, e]
      rw [eg]
      exact ⟨fun x hx => by cases hx; exact ⟨_, valV_pos e', a.2⟩, fun hx => by cases hx⟩
    · have e' : ¬ p.1 = k := fun z => e (a.1.symm.trans z)
      have eg : ∀ r : DTs, getT (q :: r) k = getT r k := fun r => by simp [getT, List.find?_cons, e]
      rw [eg, valV_neg e']
      exact ⟨h1, h2⟩
theorem prT_any {k : List Key} : ∀ {vs : List (List Key × V)} {kvs : DTs}, PrT2 K fa G vs kvs → (vs.any fun kv => decide (kv.1 = k)) = (kvs.any fun kv => decide (kv.1 = k))
  | _, _, .nil => rfl
  | _, _, .cons a b => by rw [List.any_cons, List.any_cons, a.1, prT_any b]
theorem prT_map {k : List Key} {v : V} {x : T} (r : Rep K fa G v x) : ∀ {vs : List (List Key × V)} {kvs : DTs}, PrT2 K fa G vs kvs →
    PrT2 K fa G (vs.map fun kv => if kv.1 = k then (kv.1, v) else kv) (kvs.map fun kv => if kv.1 = k then (kv.1, x) else kv)
  | _, _, .nil => .nil
  | _, _, .cons (a := p) (b := q) a b => by
    rw [List.map_cons, List.map_cons]
    refine .cons ?_ (prT_map r b)
    by_cases e : q.1 = k
    · rw [if_pos e, if_pos (a.1.trans e)]; exact ⟨a.1, r⟩
    · rw [if_neg e, if_neg fun z => e (a.1.symm.trans z)]; exact a
theorem prT_app : ∀ {vs ws : List (List Key × V)} {kvs lvs : DTs}, PrT2 K fa G vs kvs → PrT2 K fa G ws lvs → PrT2 K fa G (vs ++ ws) (kvs ++ lvs)
  | _, _, _, _, .nil, g => g
  | _, _, _, _, .cons a b, g => .cons a (prT_app b g)
theorem prT_put {k : List Key} {v : V} {x : T} (r : Rep K fa G v x) {vs : List (List Key × V)} {kvs : DTs} (h : PrT2 K fa G vs kvs) : PrT2 K fa G (putK vs k v) (putT kvs k x) := by
  unfold putK putT
  rw [prT_any h]
  by_cases e : (kvs.any fun kv => decide (kv.1 = k)) = true
  · rw [if_pos e, if_pos e]; exact prT_map r h
  · rw [if_neg e, if_neg e]; exact prT_app h (.cons ⟨rfl, r⟩ .nil)
theorem prT_len : ∀ {vs : List (List Key × V)} {kvs : DTs}, PrT2 K fa G vs kvs → vs.length = kvs.length
  | _, _, .nil => rfl
  | _, _, .cons a b => by rw [List.length_cons, List.length_cons, prT_len b]
theorem keys_V : ∀ {xs : List T} {vs : List V} {ks : List Key}, RepAll K fa G vs xs → keysOf xs = some ks → vs = ks.map kV
  | [], _, _, r, h => by cases r; cases h; rfl
  | x :: xs, _, ks, r, h => by
    cases r with
    | cons a b =>
      cases q : x.key with
      | none => simp [keysOf, q] at h
      | some k =>
        cases q2 : keysOf xs with
        | none => simp [keysOf, q, q2] at h
        | some ks' =>
          simp [keysOf, q, q2] at h
          subst h
          rw [List.map_cons, key_V a q, keys_V b q2]
theorem tkey_V {v : V} {x : T} {ks : List Key} (r : Rep K fa G v x) (h : x.tkey = some ks) : ∃ b, v = .ref b ∧ G b = some (.tup (ks.map kV)) := by
  cases x with
  | tup xs =>
    cases r with
    | tup e a => exact ⟨_, rfl, by rw [e, keys_V a h]⟩
  | _ => cases h
theorem tview_ok {v : V} {l : L} {xs : DTs} (E : EnvOk K fa G H σ ρ) (h : LRep K fa G H C σ v l) (e : l.tview ρ = some xs) : ∃ a vs, v = .ref a ∧ H a = some (.dT vs) ∧ PrT2 K fa G vs xs := by
  cases l with
  | un => cases e
  | t y => cases e
  | own c =>
    cases c with
    | dT ys =>
      cases e
      obtain ⟨p, o, rfl, g, n, hh, r⟩ := h
      cases o with
      | dT vs => exact ⟨p, vs, rfl, hh, r⟩
      | _ => exact (show False from r).elim
    | _ => cases e
  | ref i =>
    cases q : ρ[i]? with
    | none => simp only [L.tview, q] at e; cases e
    | some m =>
      simp only [L.tview, q] at e
      cases m with
      | own c =>
        cases c with
        | dT ys =>
          cases e
          obtain ⟨a, o, e1, e2, e3, e4⟩ := E.own i _ q
          have e5 : σ[i]? = some (some v) := h
          rw [e1] at e5; cases e5
          cases o with
          | dT vs => exact ⟨a, vs, rfl, e3, e4⟩
          | _ => exact (show False from e4).elim
        | _ => cases e
      | _ => cases e
/-- what stands at a key; none: no such dict and key -/
def dlook (ρ : REnv) (l : L) (y : T) : Option (Option T) := match l.dview ρ with
  | some kvs => y.key.map fun k => getD kvs k
  | none => (l.tview ρ).bind fun kvs => y.tkey.map fun k => getT kvs k
theorem dlook_ok {v w : V} {l : L} {y : T} {o : Option T} (E : EnvOk K fa G H σ ρ) (h : LRep K fa G H C σ v l) (r : Rep K fa H w y) (e : dlook ρ l y = some o) :
    ∃ a o', v = .ref a ∧ DGet H a w o' ∧ o'.isSome = o.isSome ∧ ∀ x, o = some x → ∃ u, o' = some u ∧ Rep K fa G u x := by
  unfold dlook at e
  split at e
  · rename_i kvs q
    cases q2 : y.key with
    | none => simp [q2] at e
    | some k =>
      simp [q2] at e
      subst e
      obtain ⟨a, vs, rfl, hp, rp⟩ := dview_ok E h q
      have ⟨g1, g2⟩ := prD_get (k := k) rp
      cases q3 : getD kvs k with
      | none => exact ⟨a, none, rfl, .inl ⟨vs, k, hp, key_V r q2, (g2 q3).symm⟩, rfl, fun x z => by cases z⟩
      | some u =>
        obtain ⟨u', h1, h2⟩ := g1 u q3
        exact ⟨a, some u', rfl, .inl ⟨vs, k, hp, key_V r q2, h1.symm⟩, rfl, fun x z => by cases z; exact ⟨u', rfl, h2⟩⟩
  · cases q : l.tview ρ with
    | none => simp [q] at e
    | some kvs =>
      cases q2 : y.tkey with
      | none => simp [q, q2] at e
      | some k =>
        simp [q, q2] at e
        subst e
        obtain ⟨a, vs, rfl, hp, rp⟩ := tview_ok E h q
        obtain ⟨b, rfl, hb⟩ := tkey_V r q2
        have ⟨g1, g2⟩ := prT_get (k := k) rp
        cases q3 : getT kvs k with
        | none => exact ⟨a, none, rfl, .inr ⟨vs, k, b, .inl hp, rfl, hb, (g2 q3).symm⟩, rfl, fun x z => by cases z⟩
        | some u =>
          obtain ⟨u', h1, h2⟩ := g1 u q3
          exact ⟨a, some u', rfl, .inr ⟨vs, k, b, .inl hp, rfl, hb, h1.symm⟩, rfl, fun x z => by cases z; exact ⟨u', rfl, h2⟩⟩
end
section
variable {X : Cx} {fa : Nat → Addr} {e o f : Expr} {pos apos cpos : Pos} {d d1 d2 d3 : Den}
/-- {}, to be filled by tuples -/
def dDicT : Den := fun ρ => some (.own (.dT []), ρ)
theorem SE.dicT : SE X fa (.Dict [] [] pos) dDicT := by
  refine ⟨_, pe_dnewT, fun σ G H ρ l ρ' Q E hd k => ?_⟩
  cases hd
  intro p hp
  have ⟨a, b, c⟩ := (At.start E).newOwn (o := .dT []) (c := .dT []) hp (Paired.nil)
  exact k _ _ _ ⟨a.aft, a.env, b, c⟩
/-- k in d -/
def gDin (ρ : REnv) (l1 l2 : L) : Option Bool := (l1.view ρ).bind fun y => (dlook ρ l2 y).map fun o => o.isSome
def gDnotin (ρ : REnv) (l1 l2 : L) : Option Bool := (gDin ρ l1 l2).map fun b => !b
theorem din_read {t1 t2 : TE} (r1 : Rd1 X fa t1 d1) (r2 : Rd1 X fa t2 d2) : Rd1 X fa (tDIn t1 t2) (den2 (gB gDin) d1 d2) := by
  intro σ G H ρ l ρ' Q E hd k
  cases q : d1 ρ with
  | none => simp [den2, q] at hd
  | some z =>
    cases q1 : d2 z.2 with
    | none => simp [den2, q, q1] at hd
    | some w =>
      cases q2 : z.1.view w.2 with
      | none => simp [den2, q, q1, gB, gDin, q2] at hd
      | some y =>
        cases q3 : dlook w.2 w.1 y with
        | none => simp [den2, q, q1, gB, gDin, q2, q3] at hd
        | some o =>
          simp [den2, q, q1, gB, gDin, q2, q3] at hd
          obtain ⟨rfl, rfl⟩ := hd
          refine r1 σ G H ρ z.1 z.2 _ E q fun v1 G1 H1 P1 => r2 σ G1 H1 z.2 w.1 w.2 _ P1.env q1 fun v2 G2 H2 P2 => ?_
          have O := P1.then2 P2
          obtain ⟨a, o', rfl, g, hs, _⟩ := dlook_ok O.env O.r2 (view_ok O.env O.r1 q2) q3
          exact ⟨a, o', rfl, g, by rw [hs]; exact k _ G2 H2 (O.toAt.bl _).post⟩
theorem dnotin_read {t1 t2 : TE} (r1 : Rd1 X fa t1 d1) (r2 : Rd1 X fa t2 d2) : Rd1 X fa (tDNotIn t1 t2) (den2 (gB gDnotin) d1 d2) := by
  intro σ G H ρ l ρ' Q E hd k
  cases q : d1 ρ with
  | none => simp [den2, q] at hd
  | some z =>
    cases q1 : d2 z.2 with
    | none => simp [den2, q, q1] at hd
    | some w =>
      cases q2 : z.1.view w.2 with
      | none => simp [den2, q, q1, gB, gDnotin, gDin, q2] at hd
      | some y =>
        cases q3 : dlook w.2 w.1 y with
        | none => simp [den2, q, q1, gB, gDnotin, gDin, q2, q3] at hd
        | some o =>
          have hd : (L.t (.bl (!o.isSome)), w.2) = (l, ρ') := by
            have := hd
            simp only [den2, q, q1, gB, gDnotin, gDin, q2, q3, Option.bind_some, Option.map_some, Option.some.injEq] at this
            exact this
          cases hd
          refine r1 σ G H ρ z.1 z.2 _ E q fun v1 G1 H1 P1 => r2 σ G1 H1 z.2 w.1 w.2 _ P1.env q1 fun v2 G2 H2 P2 => ?_
          have O := P1.then2 P2
          obtain ⟨a, o', rfl, g, hs, _⟩ := dlook_ok O.env O.r2 (view_ok O.env O.r1 q2) q3
          exact ⟨a, o', rfl, g, by rw [hs]; exact k _ G2 H2 (O.toAt.bl _).post⟩
theorem SE.din (hu : X.A.units + 1 < cLine) (h1 : SE X fa e d1) (h2 : SE X fa o d2) (hm : behindInMarks .In o = false) : SE X fa (.Compare e [.In] [o] pos) (den2 (gB gDin) d1 d2) := by
  obtain ⟨t1, p1, r1⟩ := h1
  obtain ⟨t2, p2, r2⟩ := h2
  exact ⟨_, pe_cmp (pc_din hu p1 p2) hm, din_read r1 r2⟩
theorem ST.din (hu : X.A.units + 1 < cLine) (h1 : SE X fa e d1) (h2 : SE X fa o d2) (hm : behindInMarks .In o = false) : ST X fa (.Compare e [.In] [o] pos) (dBl (den2 (gB gDin) d1 d2)) := by
  obtain ⟨t1, p1, r1⟩ := h1
  obtain ⟨t2, p2, r2⟩ := h2
  exact ⟨_, pt_cmp (pc_din hu p1 p2) hm, test_read (din_read r1 r2)⟩
theorem SE.dnotin (hu : X.A.units + 1 < cLine) (h1 : SE X fa e d1) (h2 : SE X fa o d2) (hm : behindInMarks .NotIn o = false) : SE X fa (.Compare e [.NotIn] [o] pos) (den2 (gB gDnotin) d1 d2) := by
  obtain ⟨t1, p1, r1⟩ := h1
  obtain ⟨t2, p2, r2⟩ := h2
  exact ⟨_, pe_cmp (pc_dnotin hu p1 p2) hm, dnotin_read r1 r2⟩
theorem ST.dnotin (hu : X.A.units + 1 < cLine) (h1 : SE X fa e d1) (h2 : SE X fa o d2) (hm : behindInMarks .NotIn o = false) : ST X fa (.Compare e [.NotIn] [o] pos) (dBl (den2 (gB gDnotin) d1 d2)) := by
  obtain ⟨t1, p1, r1⟩ := h1
  obtain ⟨t2, p2, r2⟩ := h2
  exact ⟨_, pt_cmp (pc_dnotin hu p1 p2) hm, test_read (dnotin_read r1 r2)⟩
/-- d[k] -/
def gDgetG (ρ : REnv) (l1 l2 : L) : Option L := (l2.view ρ).bind fun y => (dlook ρ l1 y).bind fun o => o.map L.t
theorem SE.dgetG (hu : X.A.units + 1 < cLine) (h1 : SE X fa o d1) (h2 : SE X fa e d2) (hs : NoSl e) : SE X fa (.Subscript o e pos) (den2 gDgetG d1 d2) := by
  obtain ⟨t1, p1, r1⟩ := h1
  obtain ⟨t2, p2, r2⟩ := h2
  refine ⟨_, pe_dget hu p1 p2 hs, fun σ G H ρ l ρ' Q E hd k => ?_⟩
  cases q : d1 ρ with
  | none => simp [den2, q] at hd
  | some z =>
    cases q1 : d2 z.2 with
    | none => simp [den2, q, q1] at hd
    | some w =>
      cases q2 : w.1.view w.2 with
      | none => simp [den2, q, q1, gDgetG, q2] at hd
      | some y =>
        cases q3 : dlook w.2 z.1 y with
        | none => simp [den2, q, q1, gDgetG, q2, q3] at hd
        | some oo =>
          cases oo with
          | none => simp [den2, q, q1, gDgetG, q2, q3] at hd
          | some u =>
            simp [den2, q, q1, gDgetG, q2, q3] at hd
            obtain ⟨rfl, rfl⟩ := hd
            refine r1 σ G H ρ z.1 z.2 _ E q fun v1 G1 H1 P1 => r2 σ G1 H1 z.2 w.1 w.2 _ P1.env q1 fun v2 G2 H2 P2 => ?_
            have O := P1.then2 P2
            obtain ⟨a, o', rfl, g, hs, hr⟩ := dlook_ok O.env O.r1 (view_ok O.env O.r2 q2) q3
            obtain ⟨v, rfl, rv⟩ := hr u rfl
            exact ⟨a, v, rfl, g, k v G2 H2 (O.toAt.tr rv).post⟩
/-- d[k] = v, k a tuple -/
def isOwnDT (ρ : REnv) (i : Nat) : Bool := match ρ[i]? with
  | some (.own (.dT _)) => true
  | _ => false
theorem isOwnDT_inv {ρ : REnv} {i : Nat} (h : isOwnDT ρ i = true) : ∃ xs, ρ[i]? = some (.own (.dT xs)) := by
  unfold isOwnDT at h
  split at h
  · rename_i xs e; exact ⟨xs, e⟩
  · cases h
def dDputT (i : Nat) (dk dv : Den) : DenS := fun ρ => (dv ρ).bind fun p => p.1.tree.bind fun x => if isOwnDT p.2 i then (dk p.2).bind fun q => q.1.tree.bind fun y => y.tkey.bind fun k => (match q.2[i]? with
  | some (.own (.dT kvs)) => if kvs.length < line then some (.nx, q.2.set i (.own (.dT (putT kvs k x)))) else none
  | _ => none) else none
theorem SS.dputT {i : Nat} {x : Str} {pn pos' : Pos} {dk dv : Den} (hu : X.A.units + 1 < cLine) (hN : X.N[i]? = some x) (hv : visO (X.env.scope.names.lookup x) = true) (hd : (x == ("__debug__" : Str)) = false) (hcd : (x == ("__classdict__" : Str)) = false)
    (hk : SE X fa e dk) (h : SE X fa f dv) (hs : swapsWith f (some (.Subscript (.Name x pn) e pos')) pos.line X.env = pure false) : SS X fa (.Assign [.Subscript (.Name x pn) e pos'] f pos) [] (dDputT i dk dv) := by
  obtain ⟨t1, p1, r1⟩ := h
  obtain ⟨t2, p2, r2⟩ := hk
  refine ⟨_, ps_dput hu (pe_var hN (vis_of hv) hd hcd) p2 p1 hs, fun σ G H ρ fl ρ' D E hd k => ?_⟩
  cases q : dv ρ with
  | none => simp [dDputT, q] at hd
  | some z =>
    cases q1 : z.1.tree with
    | none => simp [dDputT, q, q1] at hd
    | some xv =>
      by_cases ho : isOwnDT z.2 i = true
      · cases q2 : dk z.2 with
        | none => simp [dDputT, q, q1, ho, q2] at hd
        | some w =>
          cases q3 : w.1.tree with
          | none => simp [dDputT, q, q1, ho, q2, q3] at hd
          | some y =>
            cases q4 : y.tkey with
            | none => simp [dDputT, q, q1, ho, q2, q3, q4] at hd
            | some kk =>
              cases q5 : w.2[i]? with
              | none => simp [dDputT, q, q1, ho, q2, q3, q4, q5] at hd
              | some m =>
                cases m with
                | own c =>
                  cases c with
                  | dT kvs =>
                    by_cases hl : kvs.length < line
                    · simp [dDputT, q, q1, ho, q2, q3, q4, q5, hl] at hd
                      obtain ⟨rfl, rfl⟩ := hd
                      refine r1 σ G H ρ z.1 z.2 _ E q fun v1 G1 H1 P1 => ?_
                      obtain ⟨G2, E2, R2, A2, sm2, _⟩ := toTree P1.env P1.rep P1.new P1.aft q1
                      obtain ⟨c', hc'⟩ := isOwnDT_inv ho
                      obtain ⟨a0, o0, e0, g0, h0, r0⟩ := E2.own i _ hc'
                      refine ⟨_, e0, r2 σ G2 H1 z.2 w.1 w.2 _ E2 q2 fun v2 G3 H3 P3 => ?_⟩
                      obtain ⟨G4, E4, R4, A4, sm4, _⟩ := toTree P3.env P3.rep P3.new P3.aft q3
                      obtain ⟨p, oo, f1, g, f3, f4⟩ := E4.own i _ q5
                      rw [e0] at f1; cases f1
                      cases oo with
                      | dT ws =>
                        have f4 : PrT2 X.K fa G4 ws kvs := f4
                        obtain ⟨b, rfl, hb⟩ := tkey_V R4 q4
                        refine ⟨a0, _, rfl, .inr ⟨ws, kk, b, f3, rfl, E4.same _ _ hb, by rw [prT_len f4, ← line_eq]; exact hl, rfl⟩, ?_⟩
                        have A1 : At X.K fa (Cl σ ρ) G H G4 H3 σ w.2 := ⟨E4, A2.trans A4⟩
                        exact k σ G4 _ ⟨A1.put (c' := .dT (putT kvs kk xv)) (o' := .dT (putK ws kk v1)) q5 e0 f3 (prT_put (R2.mono A4.gg) f4), Slots.refl⟩
                      | _ => exact (show False from f4).elim
                    · simp [dDputT, q, q1, ho, q2, q3, q4, q5, hl] at hd
                  | _ => simp [dDputT, q, q1, ho, q2, q3, q4, q5] at hd
                | _ => simp [dDputT, q, q1, ho, q2, q3, q4, q5] at hd
      · simp [dDputT, q, q1, ho] at hd
end
end LW
namespace LW
open PySem PySem.Spec PyProof.Rows L2

/-! ### two clauses: [elt for a in xs if t for b in ys if u] -/
abbrev DenI0 := REnv → Option (List T × REnv)
/-- what a clause further in walks: nothing that could change -/
def tDI (K : PySem.W.Frag) (fa : Nat → Addr) (d : DenI0) : TI := fun σ H R => ∃ (G : Hp) (ρ : REnv) (xs : List T) (ρ' : REnv), EnvOk K fa G H σ ρ ∧ d ρ = some (xs, ρ') ∧
  ∀ J Kp G' H', At K fa (Cl σ ρ) G H G' H' σ ρ' → Walks K fa J [] xs Kp → Kp G' H' → R J H'
def SI0 (X : Cx) (fa : Nat → Addr) (tg iter : Expr) (d : DenI0) : Prop := PI X tg iter (tDI X.K fa d)
def iR1 (d : DenA) : DenI0 := fun ρ => (d ρ).bind fun p => match p.1 with
  | [.int j] => if inBig j then some (rangeU 0 j.toNat, p.2) else none
  | _ => none
def iR2 (d : DenA) : DenI0 := fun ρ => (d ρ).bind fun p => match p.1 with
  | [.int i, .int j] => if inBig i && inBig j then some (rangeU i (j - i).toNat, p.2) else none
  | _ => none
/-- a tree: a tuple, a list that stays -/
def iTr (d : Den) : DenI0 := fun ρ => (d ρ).bind fun p => match p.1 with
  | .t (.tup xs) => some (xs, p.2)
  | .t (.lkl xs) => some (xs, p.2)
  | .t (.lst xs) => some (xs, p.2)
  | _ => none
section
variable {X : Cx} {fa : Nat → Addr} {tg e : Expr} {pos : Pos} {d : Den}
theorem SI0.range1 {a : Expr} {d : DenA} {p : Pos} (hg : Gl X "range") (hm : X.mg "range" = none) (ha : SA X fa [a] d) (hs : starEach [a] X.env = [(false, eval a X.env)]) : SI0 X fa tg (.Call (.Name "range" p) [a] [] pos) (iR1 d) := by
  obtain ⟨t, pa, r⟩ := ha
  refine ⟨fun pins s σ H R I ⟨G, ρ, xs, ρ', E, hd, k⟩ => (pi_range1 hg hm pa hs).run pins s σ H R I ?_⟩
  cases q : d ρ with
  | none => simp [iR1, q] at hd
  | some z =>
    simp only [iR1, q, Option.bind_some] at hd
    split at hd
    · rename_i j ez
      split at hd
      · rename_i hb
        cases hd
        refine r σ G H ρ z.1 z.2 _ E q fun vs G' H' A rr => ?_
        rw [ez] at rr
        have hb := inBig_of hb
        exact ⟨j, RepAll.ints (ns := [j]) rr, hb.1, hb.2, k _ _ _ _ A walks_u trivial⟩
      · cases hd
    · cases hd
theorem SI0.tree (h : SE X fa e d) : SI0 X fa tg e (iTr d) := by
  have p := h.pe
  refine ⟨fun pins s σ H R I ⟨G, ρ, xs, ρ', E, hd, k⟩ => (pi_or (pi_list p) (pi_tup p)).run pins s σ H R I ?_⟩
  cases q : d ρ with
  | none => simp [iTr, q] at hd
  | some z =>
    simp only [iTr, q, Option.bind_some] at hd
    split at hd
    · rename_i ys ez
      cases hd
      refine .inr ⟨G, ρ, z.1, z.2, E, q, fun v G' H' P => ?_⟩
      have rp := P.rep
      rw [ez] at rp
      cases (show Rep X.K fa G' v _ from rp) with
      | @tup a vs _ s r => exact ⟨a, rfl, ⟨vs, same_sqT P.env.same (.of s)⟩, k _ _ _ _ ⟨P.env, P.aft⟩ walks_t ⟨.of s, r⟩⟩
    · rename_i ys ez
      cases hd
      refine .inl ⟨G, ρ, z.1, z.2, E, q, fun v G' H' P => ?_⟩
      have rp := P.rep
      rw [ez] at rp
      cases (show Rep X.K fa G' v _ from rp) with
      | @lkl a vs _ s r => exact ⟨a, rfl, ⟨vs, P.env.same.seq s⟩, k _ _ _ _ ⟨P.env, P.aft⟩ walks_l ⟨s, r⟩⟩
    · rename_i ys ez
      cases hd
      refine .inl ⟨G, ρ, z.1, z.2, E, q, fun v G' H' P => ?_⟩
      have rp := P.rep
      rw [ez] at rp
      cases (show Rep X.K fa G' v _ from rp) with
      | @lst a vs _ s r => exact ⟨a, rfl, ⟨vs, P.env.same.seq (.of s)⟩, k _ _ _ _ ⟨P.env, P.aft⟩ walks_l ⟨.of s, r⟩⟩
    · cases hd
end
def compL2 (vs : List Nat) (g : DenG) (dt : DenT) (src1 : DenI0) (vs1 : List Nat) (g1 : DenG) (dt1 : DenT) (de : Den) : List T → REnv → Option (List T × REnv)
  | [], ρ => some ([], ρ)
  | x :: xs, ρ => (g x ρ).bind fun ρa => (dt ρa).bind fun p =>
    if p.1 then (src1 p.2).bind fun s => (compL vs1 g1 dt1 de s.1 (wipeE s.2 vs1)).bind fun q =>
      (compL2 vs g dt src1 vs1 g1 dt1 de xs (wipeE q.2 vs)).map fun r => (q.1 ++ r.1, r.2)
    else compL2 vs g dt src1 vs1 g1 dt1 de xs (wipeE p.2 vs)
def compD2 (src : DenI) (vs : List Nat) (g : DenG) (dt : DenT) (src1 : DenI0) (vs1 : List Nat) (g1 : DenG) (dt1 : DenT) (de : Den) : Den := fun ρ => (src ρ).bind fun s =>
  (compL2 vs g dt src1 vs1 g1 dt1 de s.1 (wipeE (hideO s.2.1 s.2.2) vs)).bind fun r => if r.1.length ≤ line then some (.own (.lst r.1), restE s.2.2 r.2 (s.2.1.toList ++ vs)) else none
section
variable {X : Cx} {fa : Nat → Addr}
/-- the slots come back when a comprehension is done -/
theorem comp_back {K : PySem.W.Frag} {G H G1 H1 Gi Hi : Hp} {σ : L2.St} {ρ ρ1 ρi : REnv} {ho : Option Nat} {vs : List Nat} {D : Addr} {acc : List V} {ys : List T}
    (A1 : At K fa (Cl σ ρ) G H G1 H1 σ ρ1) (hD : H1 D = none) (Ai : At K fa (Cl (wipe σ vs) (wipeE (hideO ho ρ1) vs)) G1 H1 Gi Hi (wipe σ vs) ρi) (hDi : Hi D = some (.lst acc)) (gDi : Gi D = none) (nDi : ¬ Cl (wipe σ vs) ρi D) (ra : RepAll K fa Gi acc ys) :
    Post K fa G H σ ρ (.own (.lst ys)) (restE ρ1 ρi (ho.toList ++ vs)) (.ref D) Gi Hi := by
  have lenE : ρ1.length = ρi.length := by rw [A1.env.len, Ai.env.len, wipe_length]
  have sub0 : ∀ a, Cl σ (hideO ho ρ1) a → Cl σ ρ1 a := by
    cases ho with
    | none => exact fun a h => h
    | some i => exact fun a h => Cl.hide h
  have sub1 : ∀ a, Cl (wipe σ vs) (wipeE (hideO ho ρ1) vs) a → Cl σ ρ1 a := fun a h => sub0 a (Cl.wipe h).1
  have keepK : ∀ (j : Nat) (c : OC) (a : Addr), j ∈ ho.toList ++ vs → ρ1[j]? = some (.own c) → σ[j]? = some (some (.ref a)) → ¬ Cl (wipe σ vs) (wipeE (hideO ho ρ1) vs) a := fun j c a hj e1 e2 h => by
    obtain ⟨_, j', c', n', f1, f2⟩ := Cl.wipe h
    have f3 : ρ1[j']? = some (.own c') ∧ ho ≠ some j' := by
      cases ho with
      | none => exact ⟨f1, by simp⟩
      | some t =>
        rcases set_get (show (ρ1.set t .un)[j']? = some (.own c') from f1) with ⟨_, z⟩ | ⟨n, z⟩
        · cases z
        · exact ⟨z, fun e => n (by cases e; rfl)⟩
    obtain rfl : j = j' := A1.env.inj j j' c c' a e1 f3.1 e2 f2
    rcases List.mem_append.mp hj with z | z
    · cases ho with
      | none => simp at z
      | some t => simp at z; subst z; exact f3.2 rfl
    · exact n' z
  have there1 : ∀ (j : Nat) (c : OC) (a : Addr), ρ1[j]? = some (.own c) → σ[j]? = some (some (.ref a)) → ∃ o, H1 a = some o ∧ G1 a = none ∧ ORep K fa G1 o c := fun j c a e1 e2 => by
    obtain ⟨p, o, f1, f2, f3, f4⟩ := A1.env.own j c e1
    rw [e2] at f1; cases f1
    exact ⟨o, f3, f2, f4⟩
  have back : ∀ {j : Nat}, j ∉ ho.toList ++ vs → (wipe σ vs)[j]? = σ[j]? := fun h => LW.wipe_out fun z => h (List.mem_append_right _ z)
  have csub : ∀ a, Cl σ (restE ρ1 ρi (ho.toList ++ vs)) a → Cl σ ρ1 a ∨ Cl (wipe σ vs) ρi a := fun a ⟨j, c, e1, e2⟩ => by
    rcases restE_get lenE e1 with ⟨_, h2⟩ | ⟨h1, h2⟩
    · exact .inl ⟨j, c, h2, e2⟩
    · exact .inr ⟨j, c, h2, (back h1).trans e2⟩
  have upA : Aft (Cl σ ρ1) (Cl σ (restE ρ1 ρi (ho.toList ++ vs))) G1 H1 Gi Hi :=
    ⟨Ai.aft.gg, fun a o e n => Ai.aft.keep a o e fun z => n (sub1 a z), fun a o e n g => Ai.aft.gn a o e (fun z => n (sub1 a z)) g, Ai.aft.there, fun a h => by
      rcases csub a h with z | z
      · exact .inl z
      · exact (Ai.aft.cs a z).imp (sub1 a) id⟩
  have cross : ∀ (a : Addr) (j j' : Nat) (c c' : OC), j ∈ ho.toList ++ vs → ρ1[j]? = some (.own c) → σ[j]? = some (some (.ref a)) → j' ∉ ho.toList ++ vs → ρi[j']? = some (.own c') → σ[j']? = some (some (.ref a)) → False := fun a j j' c c' h1 h2 h3 h4 h5 h6 => by
    rcases Ai.aft.cs a ⟨j', c', h5, (back h4).trans h6⟩ with z | z
    · exact keepK j c a h1 h2 h3 z
    · obtain ⟨o, f, _⟩ := there1 j c a h2 h3
      rw [z] at f; cases f
  refine ⟨A1.aft.trans upA, ⟨Ai.env.same, by rw [restE_len, ← lenE]; exact A1.env.len, fun j x e => ?_, fun j c e => ?_, fun j j' c c' a e1 e2 e3 e4 => ?_⟩, ⟨D, .lst acc, rfl, gDi, fun z => ?_, hDi, ra⟩, fun a e => ?_⟩
  · rcases restE_get lenE e with ⟨h1, h2⟩ | ⟨h1, h2⟩
    · obtain ⟨v, f1, f2⟩ := A1.env.t j x h2
      exact ⟨v, f1, f2.mono Ai.aft.gg⟩
    · obtain ⟨v, f1, f2⟩ := Ai.env.t j x h2
      exact ⟨v, (back h1).symm.trans f1, f2⟩
  · rcases restE_get lenE e with ⟨h1, h2⟩ | ⟨h1, h2⟩
    · obtain ⟨a, o, f1, f2, f3, f4⟩ := A1.env.own j c h2
      have nc := keepK j c a h1 h2 f1
      exact ⟨a, o, f1, Ai.aft.gn a o f3 nc f2, Ai.aft.keep a o f3 nc, f4.mono Ai.aft.gg⟩
    · obtain ⟨a, o, f1, f2⟩ := Ai.env.own j c h2
      exact ⟨a, o, (back h1).symm.trans f1, f2⟩
  · rcases restE_get lenE e1 with ⟨h1, h2⟩ | ⟨h1, h2⟩
    · rcases restE_get lenE e2 with ⟨h3, h4⟩ | ⟨h3, h4⟩
      · exact A1.env.inj j j' c c' a h2 h4 e3 e4
      · exact (cross a j j' c c' h1 h2 e3 h3 h4 e4).elim
    · rcases restE_get lenE e2 with ⟨h3, h4⟩ | ⟨h3, h4⟩
      · exact (cross a j' j c' c h3 h4 e4 h1 h2 e3).elim
      · exact Ai.env.inj j j' c c' a h2 h4 ((back h1).trans e3) ((back h3).trans e4)
  · rcases csub D z with z | z
    · obtain ⟨j, c, f1, f2⟩ := z
      obtain ⟨o, f, _⟩ := there1 j c D f1 f2
      rw [hD] at f; cases f
    · exact nDi z
  · cases e
    exact A1.aft.there D hD
theorem SE.comp2 {elt tg iter tg1 iter1 : Expr} {ifs ifs1 : List Expr} {scope : Scope} {own : List (Str × Nat)} {vs vs1 : List Nat} {pos : Pos} {src : DenI} {src1 : DenI0} {as as1 : List Nat} {g g1 : DenG} {dt dt1 : DenT} {de : Den} (hvs : own.map (·.2) = vs) (hc : X.calm = true) (hN : X.N.Nodup) (hi : SI X fa tg iter src)
    (ok : BlkOk X.N X.env.scope scope own) (has : ∀ i ∈ as, i ∈ vs) (hv1 : ∀ i ∈ vs1, i ∈ vs) (has1 : ∀ i ∈ as1, i ∈ vs1)
    (hg : ∀ (s : Shared) (H : Hp) (C : Addr) (cl : List (Str × Addr)) (fp : List Addr), SG (X.blk s H scope (compEnvC scope cl C X.env) fp) fa tg as g)
    (ht : ∀ (s : Shared) (H : Hp) (C : Addr) (cl : List (Str × Addr)) (fp : List Addr), STs (X.blk s H scope (compEnvC scope cl C X.env) fp) fa ifs dt)
    (hi1 : ∀ (s : Shared) (H : Hp) (C : Addr) (cl : List (Str × Addr)) (fp : List Addr), SI0 (X.blk s H scope (compEnvC scope cl C X.env) fp) fa tg1 iter1 src1)
    (hg1 : ∀ (s : Shared) (H : Hp) (C : Addr) (cl : List (Str × Addr)) (fp : List Addr), SG (X.blk s H scope (compEnvC scope cl C X.env) fp) fa tg1 as1 g1)
    (ht1 : ∀ (s : Shared) (H : Hp) (C : Addr) (cl : List (Str × Addr)) (fp : List Addr), STs (X.blk s H scope (compEnvC scope cl C X.env) fp) fa ifs1 dt1)
    (he : ∀ (s : Shared) (H : Hp) (C : Addr) (cl : List (Str × Addr)) (fp : List Addr), SE (X.blk s H scope (compEnvC scope cl C X.env) fp) fa elt de) (hs : ∀ x, foldedSetIterable iter X.env x = pure x) (hs1 : ∀ env x, foldedSetIterable iter1 env x = pure x) :
    PE X (.ListComp elt [⟨tg, iter, ifs, 0⟩, ⟨tg1, iter1, ifs1, 0⟩] scope pos) (tD X.K fa (compD2 src vs g dt src1 vs1 g1 dt1 de)) ∧
    ∃ wi, PI X tg iter wi ∧ ∀ (σ : L2.St) (H : Hp) (Q : VK), tD X.K fa (compD2 src vs g dt src1 vs1 g1 dt1 de) σ H Q → tLc2 wi (tDG X.K fa as g) (tDT X.K fa dt) (tDI X.K fa src1) (tDG X.K fa as1 g1) (tDT X.K fa dt1) (tD X.K fa de) vs vs1 σ H Q := by
  subst hvs
  obtain ⟨wi, pi, ri⟩ := hi
  have key : ∀ (σ : L2.St) (H : Hp) (Q : VK), tD X.K fa (compD2 src (own.map (·.2)) g dt src1 vs1 g1 dt1 de) σ H Q → tLc2 wi (tDG X.K fa as g) (tDT X.K fa dt) (tDI X.K fa src1) (tDG X.K fa as1 g1) (tDT X.K fa dt1) (tD X.K fa de) (own.map (·.2)) vs1 σ H Q := by
    rintro σ H Q ⟨G, ρ, l, ρ', E, hd, k⟩
    generalize own.map (·.2) = vs at *
    cases q0 : src ρ with
    | none => simp [compD2, q0] at hd
    | some z =>
    obtain ⟨xs, ho, ρ1⟩ := z
    cases q1 : compL2 vs g dt src1 vs1 g1 dt1 de xs (wipeE (hideO ho ρ1) vs) with
    | none => simp [compD2, q0, q1] at hd
    | some r =>
    obtain ⟨ys, ρ2⟩ := r
    by_cases hz : ys.length ≤ line
    case neg => simp [compD2, q0, q1, hz] at hd
    simp [compD2, q0, q1, hz] at hd
    obtain ⟨rfl, rfl⟩ := hd
    refine ri σ G H ρ xs ho ρ1 _ E q0 fun J bs Kp G1 H1 A1 W kp hb D hD => ?_
    have E0 : EnvOk X.K fa G1 H1 σ (hideO ho ρ1) := by
      cases ho with
      | none => exact A1.env
      | some i => exact A1.env.hide i
    have Ew := E0.wipe vs
    have c1sub : ∀ a, Cl (wipe σ vs) (wipeE (hideO ho ρ1) vs) a → Cl σ (hideO ho ρ1) a := fun a h => (Cl.wipe h).1
    have nbD : ∀ b ∈ bs, b ≠ D := fun b hbb z => (hb b hbb).1 (by rw [z]; exact hD)
    refine ⟨fun i m H' => m = xs.length - i ∧ i ≤ xs.length ∧ ∃ (G' : Hp) (ρi : REnv) (acc : List V) (yd rest : List T),
      At X.K fa (Cl (wipe σ vs) (wipeE (hideO ho ρ1) vs)) G1 H1 G' H' (wipe σ vs) ρi ∧ Kp G' H' ∧ H' D = some (.lst acc) ∧ G' D = none ∧ ¬ Cl (wipe σ vs) ρi D ∧ RepAll X.K fa G' acc yd ∧
      compL2 vs g dt src1 vs1 g1 dt1 de (xs.drop i) ρi = some (rest, ρ2) ∧ yd ++ rest = ys, ⟨xs.length, by simp, Nat.zero_le _, G1, wipeE (hideO ho ρ1) vs, [], [], ys, (At.start Ew).alloc hD, ?_, upd_same, E0.same.free hD, (At.start Ew).noCl hD, .nil, by simpa using q1, rfl⟩, ?_⟩
    · refine W.stb (fun a => a = D) (fun a => a = D) G1 H1 G1 _ kp ⟨Same.refl _, fun a o e n => by rw [upd_ne n]; exact e, fun _ _ _ _ g => g, fun a e => ?_, fun _ c => .inl c⟩ nbD
      by_cases hb : a = D
      · subst hb; exact hD
      · rw [upd_ne hb] at e; exact e
    rintro i m Hi ⟨rfl, hle, Gi, ρi, acc, yd, rest, Ai, kpi, hDi, gDi, nDi, ra, hcl, hy⟩
    by_cases hlt : i < xs.length
    case neg =>
      obtain rfl : i = xs.length := by omega
      simp [compL2] at hcl
      obtain ⟨rfl, rfl⟩ := hcl
      rw [List.append_nil] at hy
      subst hy
      exact .inl ⟨W.stop _ Gi Hi kpi Ai.env.same (Nat.le_refl _), k _ Gi Hi (comp_back A1 hD Ai hDi gDi nDi ra)⟩
    have ex : xs[i]? = some xs[i] := by simp [hlt]
    obtain ⟨go, yl⟩ := W.go i Gi Hi xs[i] kpi Ai.env.same ex
    rw [List.drop_eq_getElem_cons hlt] at hcl
    cases qa : g xs[i] ρi with
    | none => simp [compL2, qa] at hcl
    | some ρa =>
    cases qb : dt ρa with
    | none => simp [compL2, qa, qb] at hcl
    | some pb =>
    obtain ⟨b, ρb⟩ := pb
    refine .inr ⟨go, fun H' => ∃ (G' : Hp) (ρi : REnv) (acc : List V) (yd rest : List T),
      At X.K fa (Cl (wipe σ vs) (wipeE (hideO ho ρ1) vs)) G1 H1 G' H' (wipe σ vs) ρi ∧ Kp G' H' ∧ H' D = some (.lst acc) ∧ G' D = none ∧ ¬ Cl (wipe σ vs) ρi D ∧ RepAll X.K fa G' acc yd ∧
      compL2 vs g dt src1 vs1 g1 dt1 de (xs.drop (i + 1)) ρi = some (rest, ρ2) ∧ yd ++ rest = ys, fun H' h => ⟨xs.length - (i + 1), by omega, rfl, hlt, h⟩, fun v H' hv => ?_⟩
    obtain ⟨G', a1, sm, rv⟩ := yl v H' hv
    have a1' : Aft (Cl (wipe σ vs) ρi) (Cl (wipe σ vs) ρi) Gi Hi G' H' := a1.wide fun _ h => h.elim
    have E1 : EnvOk X.K fa G' H' (wipe σ vs) ρi := Ai.env.carry a1 sm fun _ _ h => h
    refine ⟨G', ρi, xs[i], ρa, E1, rv, qa, fun σ2 E2 c2 s2 => ?_⟩
    have hw : wipe σ2 vs = wipe σ vs := (s2.wiped has).trans (Slots.wiped (as := vs) ⟨wipe_length σ vs, fun j h => LW.wipe_out h⟩ fun _ h => h)
    refine ⟨hw, G', ρa, b, ρb, E2, qb, fun G3 H3 A3 => ?_⟩
    have a2 : Aft (Cl (wipe σ vs) ρi) (Cl σ2 ρa) G' H' G' H' := ⟨Same.refl _, fun _ _ h _ => h, fun _ _ _ _ h => h, fun _ h => h, fun a h => .inl (c2 a h)⟩
    have up3 := (a1'.trans a2).trans A3.aft
    have nextC : ∀ (ρc : REnv) (a : Addr), Cl (wipe σ vs) (wipeE ρc vs) a → Cl σ2 ρc a := fun ρc a h => by
      rw [← hw] at h
      exact (Cl.wipe h).1
    have bsN : ∀ b ∈ bs, ¬ Cl (wipe σ vs) ρi b := fun b hbb => by
      obtain ⟨f1, f2⟩ := hb b hbb
      cases q : H1 b with
      | none => exact absurd q f1
      | some o => exact Ai.aft.ne q fun z => f2 (c1sub b z)
    have hD3 : H3 D = some (.lst acc) := up3.keep D _ hDi nDi
    have gD3 : G3 D = none := up3.gn D _ hDi nDi gDi
    have nD3 : ¬ Cl σ2 ρb D := up3.ne hDi nDi
    cases b with
    | false =>
      simp [compL2, qa, qb] at hcl
      have e3 : EnvOk X.K fa G3 H3 (wipe σ vs) (wipeE ρb vs) := by have := A3.env.wipe vs; rwa [hw] at this
      have n3 := Ai.aft.trans up3
      exact iteF ⟨G3, wipeE ρb vs, acc, yd, rest, ⟨e3, ⟨n3.gg, n3.keep, n3.gn, n3.there, fun a z => n3.cs a (nextC ρb a z)⟩⟩, W.stb _ _ _ _ _ _ kpi up3 bsN, hD3, gD3, fun z => nD3 (nextC _ _ z), ra.mono up3.gg, hcl, hy⟩
    | true =>
    simp only [compL2, qa, qb, Option.bind_some, if_true] at hcl
    cases qs : src1 ρb with
    | none => simp [qs] at hcl
    | some s1 =>
    obtain ⟨xs1, ρ3⟩ := s1
    simp only [qs, Option.bind_some] at hcl
    cases qi : compL vs1 g1 dt1 de xs1 (wipeE ρ3 vs1) with
    | none => simp [qi] at hcl
    | some r1 =>
    obtain ⟨ys1, ρm⟩ := r1
    simp only [qi, Option.bind_some] at hcl
    cases qr : compL2 vs g dt src1 vs1 g1 dt1 de (xs.drop (i + 1)) (wipeE ρm vs) with
    | none => simp [qr] at hcl
    | some rr =>
    obtain ⟨rest2, ρn⟩ := rr
    simp [qr] at hcl
    obtain ⟨rfl, rfl⟩ := hcl
    refine iteT ⟨G3, ρb, xs1, ρ3, A3.env, qs, fun J1 Kp1 G4 H4 A4 W1 kp1 => ?_⟩
    have up4 := up3.trans A4.aft
    have hD4 : H4 D = some (.lst acc) := up4.keep D _ hDi nDi
    have gD4 : G4 D = none := up4.gn D _ hDi nDi gDi
    have nD4 : ¬ Cl σ2 ρ3 D := up4.ne hDi nDi
    have sub4 : ∀ a, Cl (wipe σ2 vs1) (wipeE ρ3 vs1) a → Cl σ2 ρ3 a := fun a h => (Cl.wipe h).1
    have wv : wipe (wipe σ2 vs1) vs = wipe σ vs := (Slots.wiped (as := vs1) ⟨wipe_length σ2 vs1, fun j h => LW.wipe_out h⟩ hv1).trans hw
    have n4 := Ai.aft.trans up4
    have At4 : At X.K fa (Cl (wipe σ vs) (wipeE (hideO ho ρ1) vs)) G1 H1 G4 H4 (wipe σ2 vs1) (wipeE ρ3 vs1) := ⟨A4.env.wipe vs1, ⟨n4.gg, n4.keep, n4.gn, n4.there, fun a z => n4.cs a (sub4 a z)⟩⟩
    refine ⟨fun j m H' => m = xs1.length - j ∧ j ≤ xs1.length ∧ ∃ (G' : Hp) (ρj : REnv) (acc : List V) (yd1 rest1 : List T),
      At X.K fa (Cl (wipe σ vs) (wipeE (hideO ho ρ1) vs)) G1 H1 G' H' (wipe σ2 vs1) ρj ∧ Kp G' H' ∧ Kp1 G' H' ∧ H' D = some (.lst acc) ∧ G' D = none ∧ ¬ Cl (wipe σ2 vs1) ρj D ∧ RepAll X.K fa G' acc (yd ++ yd1) ∧
      compL vs1 g1 dt1 de (xs1.drop j) ρj = some (rest1, ρm) ∧ yd1 ++ rest1 = ys1, ⟨xs1.length, by simp, Nat.zero_le _, G4, wipeE ρ3 vs1, acc, [], ys1, At4, W.stb _ _ _ _ _ _ kpi up4 bsN, kp1, hD4, gD4, fun z => nD4 (sub4 _ z), by simpa using ra.mono up4.gg, by simpa using qi, rfl⟩, ?_⟩
    rintro j m Hj ⟨rfl, hlej, Gj, ρj, accj, ydj, restj, Aj, kpj, kp1j, hDj, gDj, nDj, raj, hclj, hyj⟩
    by_cases hltj : j < xs1.length
    case neg =>
      obtain rfl : j = xs1.length := by omega
      simp [compL] at hclj
      obtain ⟨rfl, rfl⟩ := hclj
      rw [List.append_nil] at hyj
      subst hyj
      have e5 : EnvOk X.K fa Gj Hj (wipe σ vs) (wipeE ρj vs) := by have := Aj.env.wipe vs; rwa [wv] at this
      have n5 := Aj.aft
      have nx : ∀ a, Cl (wipe σ vs) (wipeE ρj vs) a → Cl (wipe σ2 vs1) ρj a := fun a h => by
        rw [← wv] at h
        exact (Cl.wipe h).1
      exact .inl ⟨W1.stop _ Gj Hj kp1j Aj.env.same (Nat.le_refl _), Gj, wipeE ρj vs, accj, yd ++ ydj, rest2, ⟨e5, ⟨n5.gg, n5.keep, n5.gn, n5.there, fun a z => n5.cs a (nx a z)⟩⟩, kpj, hDj, gDj, fun z => nDj (nx _ z), raj, qr, by rw [List.append_assoc]; exact hy⟩
    have exj : xs1[j]? = some xs1[j] := by simp [hltj]
    obtain ⟨goj, ylj⟩ := W1.go j Gj Hj xs1[j] kp1j Aj.env.same exj
    rw [List.drop_eq_getElem_cons hltj] at hclj
    cases qa1 : g1 xs1[j] ρj with
    | none => simp [compL, qa1] at hclj
    | some ρa1 =>
    cases qb1 : dt1 ρa1 with
    | none => simp [compL, qa1, qb1] at hclj
    | some pb1 =>
    obtain ⟨b1, ρb1⟩ := pb1
    refine .inr ⟨goj, fun H' => ∃ (G' : Hp) (ρj : REnv) (acc : List V) (yd1 rest1 : List T),
      At X.K fa (Cl (wipe σ vs) (wipeE (hideO ho ρ1) vs)) G1 H1 G' H' (wipe σ2 vs1) ρj ∧ Kp G' H' ∧ Kp1 G' H' ∧ H' D = some (.lst acc) ∧ G' D = none ∧ ¬ Cl (wipe σ2 vs1) ρj D ∧ RepAll X.K fa G' acc (yd ++ yd1) ∧
      compL vs1 g1 dt1 de (xs1.drop (j + 1)) ρj = some (rest1, ρm) ∧ yd1 ++ rest1 = ys1, fun H' h => ⟨xs1.length - (j + 1), by omega, rfl, hltj, h⟩, fun v1 H'' hv1' => ?_⟩
    obtain ⟨G'', b1a, sm1, rv1⟩ := ylj v1 H'' hv1'
    have b1' : Aft (Cl (wipe σ2 vs1) ρj) (Cl (wipe σ2 vs1) ρj) Gj Hj G'' H'' := b1a.wide fun _ h => h.elim
    have E5 : EnvOk X.K fa G'' H'' (wipe σ2 vs1) ρj := Aj.env.carry b1a sm1 fun _ _ h => h
    refine ⟨G'', ρj, xs1[j], ρa1, E5, rv1, qa1, fun σ3 E6 c6 s6 => ?_⟩
    have hw1 : wipe σ3 vs1 = wipe σ2 vs1 := (s6.wiped has1).trans (Slots.wiped (as := vs1) ⟨wipe_length σ2 vs1, fun j h => LW.wipe_out h⟩ fun _ h => h)
    refine ⟨hw1, G'', ρa1, b1, ρb1, E6, qb1, fun G7 H7 A7 => ?_⟩
    have a6 : Aft (Cl (wipe σ2 vs1) ρj) (Cl σ3 ρa1) G'' H'' G'' H'' := ⟨Same.refl _, fun _ _ h _ => h, fun _ _ _ _ h => h, fun _ h => h, fun a h => .inl (c6 a h)⟩
    have up7 := (b1'.trans a6).trans A7.aft
    have hD7 : H7 D = some (.lst accj) := up7.keep D _ hDj nDj
    have gD7 : G7 D = none := up7.gn D _ hDj nDj gDj
    have nD7 : ¬ Cl σ3 ρb1 D := up7.ne hDj nDj
    have nextC1 : ∀ (ρc : REnv) (a : Addr), Cl (wipe σ2 vs1) (wipeE ρc vs1) a → Cl σ3 ρc a := fun ρc a h => by
      rw [← hw1] at h
      exact (Cl.wipe h).1
    have nextE1 : ∀ {G H : Hp} {ρc : REnv}, EnvOk X.K fa G H σ3 ρc → EnvOk X.K fa G H (wipe σ2 vs1) (wipeE ρc vs1) := fun {G H ρc} h => by
      have := h.wipe vs1
      rwa [hw1] at this
    have narrow1 : ∀ {G' H' : Hp} {ρc : REnv}, Aft (Cl (wipe σ vs) (wipeE (hideO ho ρ1) vs)) (Cl σ3 ρc) G1 H1 G' H' → Aft (Cl (wipe σ vs) (wipeE (hideO ho ρ1) vs)) (Cl (wipe σ2 vs1) (wipeE ρc vs1)) G1 H1 G' H' := fun {G' H' ρc} h =>
      ⟨h.gg, h.keep, h.gn, h.there, fun a z => h.cs a (nextC1 ρc a z)⟩
    have outN : ∀ b ∈ bs, ¬ Cl (wipe σ2 vs1) ρj b := fun b hbb => by
      obtain ⟨f1, f2⟩ := hb b hbb
      cases q : H1 b with
      | none => exact absurd q f1
      | some o => exact Aj.aft.ne q fun z => f2 (c1sub b z)
    have inN : ∀ b ∈ ([] : List Addr), ¬ Cl (wipe σ2 vs1) ρj b := fun b hbb => by cases hbb
    cases b1 with
    | false =>
      simp [compL, qa1, qb1] at hclj
      exact iteF ⟨G7, wipeE ρb1 vs1, accj, ydj, restj, ⟨nextE1 A7.env, narrow1 (Aj.aft.trans up7)⟩, W.stb _ _ _ _ _ _ kpj up7 outN, W1.stb _ _ _ _ _ _ kp1j up7 inN, hD7, gD7, fun z => nD7 (nextC1 _ _ z), raj.mono up7.gg, hclj, hyj⟩
    | true =>
    simp only [compL, qa1, qb1, Option.bind_some, if_true] at hclj
    cases qc : de ρb1 with
    | none => simp [qc] at hclj
    | some pc =>
    obtain ⟨le, ρc⟩ := pc
    cases qt : le.tree with
    | none => simp [qc, qt] at hclj
    | some y =>
    cases qr1 : compL vs1 g1 dt1 de (xs1.drop (j + 1)) (wipeE ρc vs1) with
    | none => simp [qc, qt, qr1] at hclj
    | some rr1 =>
    simp [qc, qt, qr1] at hclj
    obtain ⟨rfl, rfl⟩ := hclj
    refine iteT ⟨G7, ρb1, le, ρc, A7.env, qc, fun v8 G8 H8 P8 => ?_⟩
    obtain ⟨G9, E9, R9, A9, sm9, _⟩ := toTree P8.env P8.rep P8.new P8.aft qt
    have up9 := up7.trans A9
    have hD9 : H8 D = some (.lst accj) := up9.keep D _ hDj nDj
    have gD9 : G9 D = none := up9.gn D _ hDj nDj gDj
    have nD9 : ¬ Cl σ3 ρc D := up9.ne hDj nDj
    have hlen : accj.length < sizeLine := by
      rw [← line_eq]
      have h1 := raj.length
      rw [← hy, ← hyj] at hz
      simp at hz h1
      omega
    have At9 : At X.K fa (Cl (wipe σ vs) (wipeE (hideO ho ρ1) vs)) G1 H1 G9 H8 (wipe σ2 vs1) (wipeE ρc vs1) := ⟨nextE1 E9, narrow1 (Aj.aft.trans up9)⟩
    refine ⟨accj, hD9, hlen, G9, wipeE ρc vs1, accj ++ [v8], ydj ++ [y], rr1.1, At9.mut hD9 gD9 (fun z => nD9 (nextC1 _ _ z)) hD, ?_, ?_, upd_same, gD9, fun z => nD9 (nextC1 _ _ z), ?_, qr1, by simpa using hyj⟩
    · exact W.stb _ _ _ _ _ _ (W.stb _ _ _ _ _ _ kpj up9 outN) (mut_aft hD9) nbD
    · exact W1.stb _ _ _ _ _ _ (W1.stb _ _ _ _ _ _ kp1j up9 inN) (mut_aft hD9) fun b hbb => by cases hbb
    · rw [← List.append_assoc]; exact (raj.mono up9.gg).append (.one R9)
  have pg : ∀ (s : Shared) (H : Hp) (C : Addr) (cl : List (Str × Addr)) (fp : List Addr), PG (X.blk s H scope (compEnvC scope cl C X.env) fp) tg (tDG X.K fa as g) := hg
  have pt : ∀ (s : Shared) (H : Hp) (C : Addr) (cl : List (Str × Addr)) (fp : List Addr), PTs (X.blk s H scope (compEnvC scope cl C X.env) fp) ifs (tDT X.K fa dt) := ht
  have qi : ∀ (s : Shared) (H : Hp) (C : Addr) (cl : List (Str × Addr)) (fp : List Addr), PI (X.blk s H scope (compEnvC scope cl C X.env) fp) tg1 iter1 (tDI X.K fa src1) := hi1
  have qg : ∀ (s : Shared) (H : Hp) (C : Addr) (cl : List (Str × Addr)) (fp : List Addr), PG (X.blk s H scope (compEnvC scope cl C X.env) fp) tg1 (tDG X.K fa as1 g1) := hg1
  have qt : ∀ (s : Shared) (H : Hp) (C : Addr) (cl : List (Str × Addr)) (fp : List Addr), PTs (X.blk s H scope (compEnvC scope cl C X.env) fp) ifs1 (tDT X.K fa dt1) := ht1
  have pe : ∀ (s : Shared) (H : Hp) (C : Addr) (cl : List (Str × Addr)) (fp : List Addr), PE (X.blk s H scope (compEnvC scope cl C X.env) fp) elt (tD X.K fa de) := fun s H C cl fp => (he s H C cl fp).pe
  exact ⟨⟨fun pins s σ H Q I h => (pe_lc2 hc hN pi ok hv1 pg pt qi qg qt pe hs hs1).run pins s σ H Q I (key σ H Q h)⟩, wi, pi, key⟩
/-- as a statement of its own: x = [..] -/
theorem SS.setC2 {i : Nat} {y : Str} {py : Pos} {elt tg iter tg1 iter1 : Expr} {ifs ifs1 : List Expr} {scope : Scope} {own : List (Str × Nat)} {vs vs1 : List Nat} {pos spos : Pos} {src : DenI} {src1 : DenI0} {as as1 : List Nat} {g g1 : DenG} {dt dt1 : DenT} {de : Den} (hvs : own.map (·.2) = vs) (hc : X.calm = true) (hN : X.N.Nodup) (hy : X.N[i]? = some y) (hyl : X.env.scope.names.lookup y = some .local)
    (hsw : swapsWith (.ListComp elt [⟨tg, iter, ifs, 0⟩, ⟨tg1, iter1, ifs1, 0⟩] scope pos) (some (.Name y py)) spos.line X.env = pure true) (hi : SI X fa tg iter src)
    (ok : BlkOk X.N X.env.scope scope own) (has : ∀ i ∈ as, i ∈ vs) (hv1 : ∀ i ∈ vs1, i ∈ vs) (has1 : ∀ i ∈ as1, i ∈ vs1)
    (hg : ∀ (s : Shared) (H : Hp) (C : Addr) (cl : List (Str × Addr)) (fp : List Addr), SG (X.blk s H scope (compEnvC scope cl C X.env) fp) fa tg as g)
    (ht : ∀ (s : Shared) (H : Hp) (C : Addr) (cl : List (Str × Addr)) (fp : List Addr), STs (X.blk s H scope (compEnvC scope cl C X.env) fp) fa ifs dt)
    (hi1 : ∀ (s : Shared) (H : Hp) (C : Addr) (cl : List (Str × Addr)) (fp : List Addr), SI0 (X.blk s H scope (compEnvC scope cl C X.env) fp) fa tg1 iter1 src1)
    (hg1 : ∀ (s : Shared) (H : Hp) (C : Addr) (cl : List (Str × Addr)) (fp : List Addr), SG (X.blk s H scope (compEnvC scope cl C X.env) fp) fa tg1 as1 g1)
    (ht1 : ∀ (s : Shared) (H : Hp) (C : Addr) (cl : List (Str × Addr)) (fp : List Addr), STs (X.blk s H scope (compEnvC scope cl C X.env) fp) fa ifs1 dt1)
    (he : ∀ (s : Shared) (H : Hp) (C : Addr) (cl : List (Str × Addr)) (fp : List Addr), SE (X.blk s H scope (compEnvC scope cl C X.env) fp) fa elt de) (hs : ∀ x, foldedSetIterable iter X.env x = pure x) (hs1 : ∀ env x, foldedSetIterable iter1 env x = pure x) :
    SS X fa (.Assign [.Name y py] (.ListComp elt [⟨tg, iter, ifs, 0⟩, ⟨tg1, iter1, ifs1, 0⟩] scope pos) spos) [i] (dSet i (compD2 src vs g dt src1 vs1 g1 dt1 de)) := by
  obtain ⟨_, wi, pi, key⟩ := SE.comp2 (pos := pos) hvs hc hN hi ok has hv1 has1 hg ht hi1 hg1 ht1 he hs hs1
  subst hvs
  have pg : ∀ (s : Shared) (H : Hp) (C : Addr) (cl : List (Str × Addr)) (fp : List Addr), PG (X.blk s H scope (compEnvC scope cl C X.env) fp) tg (tDG X.K fa as g) := hg
  have pt : ∀ (s : Shared) (H : Hp) (C : Addr) (cl : List (Str × Addr)) (fp : List Addr), PTs (X.blk s H scope (compEnvC scope cl C X.env) fp) ifs (tDT X.K fa dt) := ht
  have qi : ∀ (s : Shared) (H : Hp) (C : Addr) (cl : List (Str × Addr)) (fp : List Addr), PI (X.blk s H scope (compEnvC scope cl C X.env) fp) tg1 iter1 (tDI X.K fa src1) := hi1
  have qg : ∀ (s : Shared) (H : Hp) (C : Addr) (cl : List (Str × Addr)) (fp : List Addr), PG (X.blk s H scope (compEnvC scope cl C X.env) fp) tg1 (tDG X.K fa as1 g1) := hg1
  have qt : ∀ (s : Shared) (H : Hp) (C : Addr) (cl : List (Str × Addr)) (fp : List Addr), PTs (X.blk s H scope (compEnvC scope cl C X.env) fp) ifs1 (tDT X.K fa dt1) := ht1
  have pe : ∀ (s : Shared) (H : Hp) (C : Addr) (cl : List (Str × Addr)) (fp : List Addr), PE (X.blk s H scope (compEnvC scope cl C X.env) fp) elt (tD X.K fa de) := fun s H C cl fp => (he s H C cl fp).pe
  exact ⟨_, ps_setLc2 hc hN hy hyl hsw pi ok hv1 pg pt qi qg qt pe hs hs1, set_read fun σ G H ρ l ρ' Q E hd k => key σ H Q ⟨G, ρ, l, ρ', E, hd, k⟩⟩
end
end LW
namespace LW
open PySem PySem.Spec PyProof.Rows L2

/-! ### sorted(xs), xs a list of tuples of ints, of any lengths -/
/-- by the first place at which they differ; a shorter one first -/
def lexL : List Int → List Int → Bool
  | [], [] => false
  | [], _ :: _ => true
  | _ :: _, [] => false
  | x :: xs, y :: ys => if x = y then lexL xs ys else decide (x < y)
theorem lexL_self : ∀ a, lexL a a = false
  | [] => rfl
  | x :: xs => by simp [lexL, lexL_self xs]
theorem lexL_asym : ∀ a b, lexL a b = true → lexL b a = false
  | [], [], h => by cases h
  | [], _ :: _, _ => rfl
  | _ :: _, [], h => by cases h
  | x :: xs, y :: ys, h => by
    by_cases e : x = y
    · subst e
      simp [lexL] at h ⊢
      exact lexL_asym xs ys h
    · have e2 : ¬ y = x := fun z => e z.symm
      simp [lexL, e, e2] at h ⊢
      omega
theorem lexL_eq : ∀ a b, lexL a b = false → lexL b a = false → a = b
  | [], [], _, _ => rfl
  | [], _ :: _, h, _ => by cases h
  | _ :: _, [], _, h => by cases h
  | x :: xs, y :: ys, h, h' => by
    by_cases e : x = y
    · subst e
      simp [lexL] at h h'
      rw [lexL_eq xs ys h h']
    · have e2 : ¬ y = x := fun z => e z.symm
      simp [lexL, e, e2] at h h'
      omega
theorem lexL_tr : ∀ a b c, lexL b a = false → lexL c b = false → lexL c a = false
  | [], [], [], _, _ => rfl
  | [], [], _ :: _, _, _ => rfl
  | [], _ :: _, [], _, h => by cases h
  | [], _ :: _, _ :: _, _, _ => rfl
  | _ :: _, [], _, h, _ => by cases h
  | _ :: _, _ :: _, [], _, h => by cases h
  | x :: xs, y :: ys, z :: zs, h, h' => by
    by_cases e1 : y = x
    · subst e1
      by_cases e2 : z = y
      · subst e2
        simp [lexL] at h h' ⊢
        exact lexL_tr xs ys zs h h'
      · simpa [lexL, e2] using h'
    · by_cases e2 : z = y
      · subst e2
        simpa [lexL, e1] using h
      · simp [lexL, e1] at h
        simp [lexL, e2] at h'
        have : ¬ z = x := by omega
        simp [lexL, this]
        omega
theorem swo_lexL {α : Type} (k : α → List Int) : SrtO.Swo fun v u => lexL (k v) (k u) := ⟨fun x y h => lexL_asym _ _ h, fun x y z h1 h2 => lexL_tr _ _ _ h1 h2⟩
def lexR : List Int → List Int → Bool → Bool
  | [], _, f => f
  | _ :: _, [], f => f
  | x :: xs, y :: ys, f => if x = y then lexR xs ys f else decide (x < y)
theorem lexR_L : ∀ xs ys, lexR xs ys (decide (xs.length < ys.length)) = lexL xs ys
  | [], [] => rfl
  | [], _ :: _ => by simp [lexR, lexL]
  | _ :: _, [] => by simp [lexR, lexL]
  | x :: xs, y :: ys => by
    have := lexR_L xs ys
    simp only [lexR, lexL, List.length_cons, Nat.add_lt_add_iff_right, this]
section
variable {P : Program} {w : World} {A : Around} {E : Value → Shared → Prop} {s : Shared}
theorem kat_ints {b fin : Bool} {Q : Bool → Shared → Prop} : ∀ {us vs : List Value} {ks ls : List Int}, IntsAre us ks → IntsAre vs ls → ∀ i, Q (lexR ks ls fin) s → PySem.W.KatLex P w A b fin Q (us.zip vs) i s
  | _, _, [], _, .nil, _, i, h => PySem.W.kat_nil h
  | _, _, _ :: _, [], .cons _ _ _, .nil, i, h => PySem.W.kat_nil h
  | _, _, x :: ks, y :: ls, .cons _ t r, .cons _ u q, i, h => by
    refine PySem.W.kat_cons (SeqAt.EqAt.int_int x t y u P w _ _ (PySem.W.kat_go (fun e => ?_) (fun e => ?_)))
    · have e : x = y := by simpa using e
      exact PySem.W.kat_yes (kat_ints r q (i + 1) (by simpa [lexR, e] using h))
    · have e : ¬ x = y := by simpa using e
      exact PySem.W.kat_no (TS.oneLt_ints _ (by simpa [lexR, e] using h))
theorem tups_cmp {vs : List Value} {k : Value → List Int} (hp : ∀ v ∈ vs, TS.TupInts s.heap v (k v)) : SrtO.Cmp P w A s (tuples' true) (fun p => p.1 ∈ vs) (SrtO.lt2 fun v u => lexL (k v) (k u)) := by
  intro p q hm hm'
  have ⟨a, xs, e, ⟨o, ho, hc, n, hd⟩, hx⟩ := hp _ hm
  have ⟨a', ys, e', ⟨o', ho', hc', n', hd'⟩, hy⟩ := hp _ hm'
  show wpAny (model P w) A (keyLt' (tuples' true) p.1 q.1) (fun r s' => s' = s ∧ r = lexL (k p.1) (k q.1)) (fun _ _ => False) s
  have l1 := hx.length
  have l2 := hy.length
  rw [Array.length_toList] at l1 l2
  generalize k p.1 = kp at *
  generalize k q.1 = kq at *
  rw [e, e']
  refine PySem.W.kat_lt ho hd ho' hd' (kat_ints hx hy 0 ⟨rfl, ?_⟩)
  rw [l1, l2, lexR_L]
theorem tupI_keep {h h' : Heap} {v : Value} {ks : List Int} (x : TS.TupInts h v ks) (kp : ∀ b o, h.get? b = some o → o.cls = .type "tuple" → h'.get? b = some o) : TS.TupInts h' v ks := by
  obtain ⟨a, xs, e, ⟨o, ho, hc, n, hd⟩, hx⟩ := x
  exact ⟨a, xs, e, ⟨o, kp a o ho hc, hc, n, hd⟩, hx⟩
theorem tup_firsts {h : Heap} {k : Value → List Int} : ∀ vs : List Value, (∀ v ∈ vs, TS.TupInts h v (k v) ∧ k v ≠ []) → ∃ fs, PySem.W.KatTups h vs fs ∧ fs.length = vs.length ∧ ∀ f, f ∈ fs → ∃ n t, f = Value.int n t
  | [], _ => ⟨[], PySem.W.KatTups.nil, rfl, fun f hf => by simp at hf⟩
  | v :: vs, x => by
    obtain ⟨fs, h1, hl, hi⟩ := tup_firsts vs fun u hu => x u (List.mem_cons_of_mem _ hu)
    obtain ⟨⟨a, xs, e, ⟨o, ho, hc, n, hd⟩, hx⟩, hn⟩ := x v List.mem_cons_self
    subst e
    have hl2 := hx.length
    cases q : xs.toList with
    | nil =>
      rw [q] at hl2
      exact absurd (List.length_eq_zero_iff.mp hl2.symm) hn
    | cons y ys =>
      obtain ⟨m, t, hy⟩ := hx.all y (by rw [q]; exact List.mem_cons_self)
      have e0 : xs[0]? = some y := by rw [← Array.getElem?_toList, q]; rfl
      refine ⟨y :: fs, PySem.W.KatTups.cons ho hc hd e0 h1, by simp [hl], fun f hf => ?_⟩
      rcases List.mem_cons.mp hf with rfl | hf
      · exact ⟨m, t, hy⟩
      · exact hi f hf
theorem tups_sortable {a : Addr} {vs : List Value} {k : Value → List Int} (h0 : 0 < vs.length) (hp : ∀ v ∈ vs, TS.TupInts s.heap v (k v) ∧ k v ≠ []) (ha : ∀ o, s.heap.get? a = some o → o.cls ≠ .type "tuple") : SrtO.SortableO P w A s a vs fun v u => lexL (k v) (k u) := by
  intro h' keep
  have hp' : ∀ v ∈ vs, TS.TupInts h' v (k v) ∧ k v ≠ [] := fun v hm => ⟨tupI_keep (hp v hm).1 fun b o e c => keep b o (fun z => by subst z; exact ha o e c) e, (hp v hm).2⟩
  obtain ⟨fs, h1, h2, h3⟩ := tup_firsts vs hp'
  refine ⟨tuples' true, fun Q E hq => ?_, tups_cmp fun v hv => (hp' v hv).1⟩
  refine PySem.W.kat_kind (T := .type "int") h1 (by omega) (fun f hm => ?_) (by rfl) ?_
  · obtain ⟨x, t, rfl⟩ := h3 f hm
    exact PySem.W.Looks.now
  · rw [show (Value.type "int" != Value.type "tuple") = true by first | decide +kernel | rfl | decide]
    exact hq
theorem sorted_tups {l : Addr} {vs : List Value} {k : Value → List Int} {Q : Value → Shared → Prop} (hl : s.heap.IsList l vs.toArray) (hz : vs.length ≤ sizeLine) (hp : ∀ v ∈ vs, TS.TupInts s.heap v (k v) ∧ k v ≠ [])
    (h : ∀ (h' : Heap) (d : Addr) (out : List Value), SrtO.Srtd (fun v u => lexL (k v) (k u)) out → SrtO.Stb (fun v u => lexL (k v) (k u)) out vs → (∀ b o, s.heap.get? b = some o → h'.get? b = some o) → s.heap.objs.size ≤ d → (∃ n, h'.get? d = some (seqObj "list" out.toArray n)) → Q (.ref d) { s with heap := h' }) :
    wpAny (model P w) A (call (.builtin "sorted") [.ref l]) Q E s := by
  refine SrtO.sorted_ord (swo_lexL k) hl hz (fun h2 h₁ a ha kk => ?_) fun out hs hb => ?_
  · refine tups_sortable (s := { s with heap := h₁ }) (by omega) (fun v hm => ⟨tupI_keep (hp v hm).1 fun b o e _ => (kk b o e).2, (hp v hm).2⟩) fun o e => ?_
    have e' : some o = some (seqObj "list" vs.toArray 0) := e.symm.trans ha
    cases e'
    intro c
    exact absurd (Value.type.inj c) (by decide)
  · exact h _ _ out hs hb (fun b o e => sortedAll_old e) (Nat.le_succ _) (sortedAll_at s.heap vs out.toArray)
end
/-- the sorted list -/
def insL (x : List Int) : List (List Int) → List (List Int)
  | [] => [x]
  | y :: ys => if lexL y x then y :: insL x ys else x :: y :: ys
def sortL : List (List Int) → List (List Int)
  | [] => []
  | x :: xs => insL x (sortL xs)
abbrev leL (a b : List Int) : Prop := lexL b a = false
theorem insL_perm (x : List Int) : ∀ ys, (insL x ys).Perm (x :: ys)
  | [] => .refl _
  | y :: ys => by
    unfold insL
    split
    · exact ((insL_perm x ys).cons y).trans (List.Perm.swap x y ys)
    · exact .refl _
theorem sortL_perm : ∀ xs, (sortL xs).Perm xs
  | [] => .refl _
  | x :: xs => (insL_perm x _).trans ((sortL_perm xs).cons x)
theorem insL_sorted (x : List Int) : ∀ {ys : List (List Int)}, ys.Pairwise leL → (insL x ys).Pairwise leL
  | [], _ => by simp [insL]
  | y :: ys, h => by
    have ⟨h1, h2⟩ := List.pairwise_cons.mp h
    unfold insL
    split
    · rename_i hx
      refine List.pairwise_cons.mpr ⟨fun z hz => ?_, insL_sorted x h2⟩
      have m := (insL_perm x ys).mem_iff.mp hz
      rcases List.mem_cons.mp m with e | e
      · rw [e]; exact lexL_asym _ _ hx
      · exact h1 z e
    · rename_i hx
      have hx : leL x y := Bool.not_eq_true _ |>.mp hx
      refine List.pairwise_cons.mpr ⟨fun z hz => ?_, h⟩
      rcases List.mem_cons.mp hz with e | e
      · rw [e]; exact hx
      · exact lexL_tr x y z hx (h1 z e)
theorem sortL_sorted : ∀ xs, (sortL xs).Pairwise leL
  | [] => .nil
  | x :: xs => insL_sorted x (sortL_sorted xs)
theorem leL_unique : ∀ {xs ys : List (List Int)}, xs.Perm ys → xs.Pairwise leL → ys.Pairwise leL → xs = ys
  | [], ys, p, _, _ => by rw [List.nil_perm.mp p]
  | x :: xs, [], p, _, _ => by have := p.length_eq; simp at this
  | x :: xs, y :: ys, p, h1, h2 => by
    have ⟨a1, a2⟩ := List.pairwise_cons.mp h1
    have ⟨b1, b2⟩ := List.pairwise_cons.mp h2
    have e : x = y := by
      rcases List.mem_cons.mp (p.mem_iff.mp (List.mem_cons_self (a := x) (l := xs))) with z | z
      · exact z
      · rcases List.mem_cons.mp (p.mem_iff.mpr (List.mem_cons_self (a := y) (l := ys))) with w | w
        · exact w.symm
        · exact lexL_eq _ _ (b1 x z) (a1 y w)
    subst e
    rw [leL_unique (List.Perm.cons_inv p) a2 b2]
def TpI (K : PySem.W.Frag) (H : Hp) (x : V) (p : List Int) : Prop := ∃ t, x = V.ref t ∧ SqT K H t (p.map V.int)
def rSortedTT (K : PySem.W.Frag) : List V → Hp → VK → Prop := fun vs H Q => ∃ (a : Addr) (xs : List V) (ps : List (List Int)), vs = [V.ref a] ∧ SqL K H a xs ∧ xs.length = ps.length ∧ (∀ z ∈ xs.zip ps, TpI K H z.1 z.2) ∧ (∀ p ∈ ps, p ≠ []) ∧
  ∀ ys p, ys.length = ps.length → (∀ z ∈ ys.zip (sortL ps), z ∈ xs.zip ps) → H p = none → Q (.ref p) (upd H p (.lst ys))
theorem map_int_inj {a b : List Int} (h : a.map V.int = b.map V.int) : a = b := by
  induction a generalizing b with
  | nil => cases b <;> simp_all
  | cons x a ih =>
    cases b with
    | nil => simp at h
    | cons y b => simp only [List.map_cons, List.cons.injEq, V.int.injEq] at h; rw [h.1, ih h.2]
section
variable {X : Cx}
open Classical in
theorem cr_sortedTT : CallR X (.builtin "sorted") (rSortedTT X.K) := by
  intro pins s σ H vs us Q I r h
  obtain ⟨a, xs, ps, rfl, hs, hlen, hz0, hne, q⟩ := h
  let k : V → List Int := fun v => if h : ∃ p : List Int, TpI X.K H v p then h.choose else []
  have kz : ∀ v p, TpI X.K H v p → k v = p := fun v p hp => by
    have hex : ∃ p : List Int, TpI X.K H v p := ⟨p, hp⟩
    have e1 : k v = hex.choose := dif_pos hex
    obtain ⟨t, rfl, st⟩ := hp
    obtain ⟨t', et, st'⟩ := hex.choose_spec
    cases et
    rw [e1]
    exact (map_int_inj (I.tuple_inj st st')).symm
  have hmap : ps = xs.map k := by
    refine List.ext_getElem? fun i => ?_
    rw [List.getElem?_map]
    cases e1 : xs[i]? with
    | none => rw [List.getElem?_eq_none_iff] at e1; rw [Option.map_none, List.getElem?_eq_none_iff]; omega
    | some v =>
      have hi2 : i < ps.length := by have := (List.getElem?_eq_some_iff.mp e1).1; omega
      have e2 : ps[i]? = some ps[i] := List.getElem?_eq_getElem hi2
      have hm : (v, ps[i]) ∈ xs.zip ps := List.mem_of_getElem? (List.getElem?_zip_eq_some.mpr ⟨e1, e2⟩)
      rw [e2, Option.map_some, kz v _ (hz0 _ hm)]
  have hx : ∀ x ∈ xs, ∃ t, x = V.ref t ∧ SqT X.K H t ((k x).map V.int) ∧ k x ≠ [] := fun x m => by
    obtain ⟨i, hi⟩ := List.getElem?_of_mem m
    have hp : ps[i]? = some (k x) := by rw [hmap, List.getElem?_map, hi]; rfl
    have hm : (x, k x) ∈ xs.zip ps := List.mem_of_getElem? (i := i) (List.getElem?_zip_eq_some.mpr ⟨hi, hp⟩)
    obtain ⟨t, e1, e2⟩ := hz0 _ hm
    exact ⟨t, e1, e2, hne _ (List.mem_of_getElem? hp)⟩
  obtain ⟨its, rv, hl, hz⟩ := I.list hs
  rw [Vals.ref1 r]
  obtain ⟨e1, e2⟩ := refs_back rv fun x m => let ⟨t, e, _⟩ := hx x m; ⟨t, e⟩
  refine sorted_tups (k := fun u => k (backV u)) hl.isList (by rw [← rv.length]; exact hz) (fun v hv => ?_) fun h' d out h1 h2 kp hd hn => ?_
  · obtain ⟨t, rfl⟩ := e2 v hv
    obtain ⟨t', e, ht, hn⟩ := hx (V.ref t) (by rw [e1]; exact List.mem_map.mpr ⟨_, hv, rfl⟩)
    cases e
    exact ⟨tupI_raw I ht, hn⟩
  · have h3 : ∀ u ∈ out, ∃ a, u = Value.ref a := fun u hu => e2 u (h2.perm.mem_iff.mp hu)
    obtain ⟨n, hn⟩ := hn
    have hb : SrtO.Stb (fun v u => lexL (k v) (k u)) (out.map backV) xs := by
      rw [e1]
      exact SrtO.Stb.map (swo_lexL k) backV h2
    have hsr : SrtO.Srtd (fun v u => lexL (k v) (k u)) (out.map backV) := SrtO.srtd_map h1
    have hk : (out.map backV).map k = sortL ps := leL_unique (((hb.perm.map k).trans (by rw [hmap])).trans (sortL_perm ps).symm) (List.pairwise_map.mpr hsr) (sortL_sorted ps)
    refine ⟨.ref d, upd H d (.lst (out.map backV)), I.laid (t' := s.toks) kp hd ⟨by rw [hb.len]; exact hz, out, n, vals_back h3, hn⟩, rfl, q _ d (by rw [hb.len]; exact hlen) (fun z hz => ?_) (I.hok.fresh hd)⟩
    rw [← hk] at hz
    obtain ⟨i, hi⟩ := List.getElem?_of_mem hz
    obtain ⟨f1, f2⟩ := List.getElem?_zip_eq_some.mp hi
    rw [List.getElem?_map, f1, Option.map_some] at f2
    have f2 := Option.some.inj f2
    obtain ⟨j, hj⟩ := List.getElem?_of_mem (hb.perm.mem_iff.mp (List.mem_of_getElem? f1))
    refine List.mem_of_getElem? (i := j) (List.getElem?_zip_eq_some.mpr ⟨hj, ?_⟩)
    rw [hmap, List.getElem?_map, hj, Option.map_some, f2]
end
def asTups : List T → Option (List (List Int))
  | [] => some []
  | .tup xs :: ts => if xs.isEmpty then none else (asInts xs).bind fun ns => (asTups ts).map fun ps => ns :: ps
  | _ => none
def tupT (ns : List Int) : T := .tup (ns.map T.int)
theorem asTups_map : ∀ ps : List (List Int), (∀ p ∈ ps, p ≠ []) → asTups (ps.map tupT) = some ps
  | [], _ => rfl
  | p :: ps, h => by
    have e1 : asInts (p.map T.int) = some p := by
      have := asInts_f (fun x : Int => x) p
      simpa using this
    have e2 : (p.map T.int).isEmpty = false := by
      have := h p List.mem_cons_self
      cases p <;> simp_all
    simp only [List.map_cons, tupT, asTups, e1, e2]
    have := asTups_map ps fun q hq => h q (List.mem_cons_of_mem _ hq)
    simp [show asTups (ps.map tupT) = some ps from this]
theorem asTups_inv : ∀ {xs : List T} {ps : List (List Int)}, asTups xs = some ps → xs = ps.map tupT ∧ ∀ p ∈ ps, p ≠ []
  | [], ps, h => by cases h; exact ⟨rfl, fun p hp => by cases hp⟩
  | x :: xs, ps, h => by
    unfold asTups at h
    split at h
    · rename_i e; cases e
    · rename_i zs ys e
      cases e
      split at h
      · cases h
      · rename_i hne
        cases q1 : asInts zs with
        | none => simp [q1] at h
        | some ns =>
          cases q : asTups xs with
          | none => simp [q1, q] at h
          | some qs =>
            simp [q1, q] at h
            subst h
            have ⟨f1, f2⟩ := asTups_inv q
            have f3 := asInts_inv q1
            subst f3
            refine ⟨by rw [f1]; rfl, fun p hp => ?_⟩
            rcases List.mem_cons.mp hp with rfl | hp
            · intro z; subst z; simp at hne
            · exact f2 p hp
    · cases h
theorem tupT_rep {K : PySem.W.Frag} {fa : Nat → Addr} {G : Hp} {v : V} {p : List Int} (r : Rep K fa G v (tupT p)) : TpI K G v p := by
  cases (show Rep K fa G v (.tup (p.map T.int)) from r) with
  | tup s a =>
    rw [RepAll.ints a] at s
    exact ⟨_, rfl, .of s⟩
def gSortTT (ρ : REnv) (l : L) : Option L := ((l.lview ρ).bind asTups).map fun ps => .own (.lst ((sortL ps).map tupT))
theorem unt_sortTT {K : PySem.W.Frag} {fa : Nat → Addr} : UnT K fa (fun x H Q => rSortedTT K [x] H Q) gSortTT := by
  intro C0 G0 H0 G H σ ρ v1 l1 l Q O e k
  cases q : l1.lview ρ with
  | none => simp [gSortTT, q] at e
  | some xs =>
    cases q1 : asTups xs with
    | none => simp [gSortTT, q, q1] at e
    | some ps =>
      simp [gSortTT, q, q1] at e
      subst e
      have ⟨f1, f2⟩ := asTups_inv q1
      subst f1
      obtain ⟨a, ws, rfl, hp, rp⟩ := lview_ok O.env O.r1 q
      have hl : ws.length = ps.length := by rw [rp.length, List.length_map]
      have zr := RepAll.zip_to rp
      rw [zip_mapT] at zr
      refine ⟨a, ws, ps, rfl, .of hp, hl, fun z hz => ?_, f2, fun ys p hly hzy hn => k _ _ _ (O.toAt.lstR hn (RepAll.zip_of (by rw [List.length_map, (sortL_perm ps).length_eq]; exact hly) ?_))⟩
      · obtain ⟨t, e1, e2⟩ := tupT_rep (zr _ (List.mem_map.mpr ⟨z, hz, rfl⟩))
        exact ⟨t, e1, same_sqT O.env.same e2⟩
      · rw [zip_mapT]
        intro z hz
        obtain ⟨w, hw, rfl⟩ := List.mem_map.mp hz
        exact zr _ (List.mem_map.mpr ⟨w, hzy w hw, rfl⟩)
section
variable {X : Cx} {fa : Nat → Addr} {e : Expr} {pos p : Pos} {d : Den}
theorem SE.sortTT (hg : Gl X "sorted") (hm : X.mg "sorted" = none) (h : SE X fa e d) (he : starEach (e :: []) X.env = (false, eval e X.env) :: starEach [] X.env) : SE X fa (.Call (.Name "sorted" p) [e] [] pos) (den1 gSortTT d) :=
  SE.bi1 cr_sortedTT hg hm PyProof.Rows.boot_sorted h unt_sortTT (by decide) (by decide) he
end
end LW
namespace LW
open PySem PySem.Spec PyProof.Rows L2

/-! ### objects that stay: their attributes -/
def lookT (nm : List Str) (xs : List T) (f : Str) : Option T := ((nm.zip xs).find? fun p => decide (p.1 = f)).map (·.2)
theorem look_rep {K : PySem.W.Frag} {fa : Nat → Addr} {G : Hp} {f : Str} : ∀ {fl : List (Str × V)} {xs : List T} {x : T}, RepAll K fa G (fl.map (·.2)) xs → lookT (fl.map (·.1)) xs f = some x → ∃ v, fl.lookup f = some v ∧ Rep K fa G v x
  | [], _, _, r, h => by cases r; cases h
  | (m, v) :: fl, _, x, r, h => by
    cases r with
    | @cons _ _ t ts a b =>
      by_cases e : m = f
      · subst e
        have : x = t := by simpa [lookT] using h.symm
        subst this
        exact ⟨v, by simp, a⟩
      · have h2 : lookT (fl.map (·.1)) ts f = some x := by simpa [lookT, List.find?_cons, e] using h
        obtain ⟨w, h3, h4⟩ := look_rep b h2
        refine ⟨w, ?_, h4⟩
        have e2 : (f == m) = false := by simp; exact fun z => e z.symm
        simp [List.lookup, e2, h3]
theorem look_mem {nm : List Str} {xs : List T} {f : Str} {x : T} (h : lookT nm xs f = some x) : f ∈ nm := by
  unfold lookT at h
  cases q : (nm.zip xs).find? fun p => decide (p.1 = f) with
  | none => rw [q] at h; cases h
  | some p =>
    have h1 := List.mem_of_find?_eq_some q
    have h2 := List.find?_some q
    have h2 : p.1 = f := by simpa using h2
    rw [← h2]
    exact (List.of_mem_zip h1).1
def gAttr (f : Str) (_ : REnv) (l : L) : Option L := match l with
  | .t (.ins nm xs) => (lookT nm xs f).map L.t
  | _ => none
section
variable {X : Cx} {fa : Nat → Addr} {e : Expr} {f : Str} {pos : Pos} {d : Den}
theorem unt_attr {K : PySem.W.Frag} : UnT K fa (fun x H Q => ∃ a C dx fs v, x = .ref a ∧ H a = some (.ins C dx fs) ∧ Cls K C ∧ NoAttr K C f ∧ fs.lookup f = some v ∧ Q v H) (gAttr f) := by
  intro C0 G0 H0 G H σ ρ v1 l1 l Q O e k
  unfold gAttr at e
  split at e
  · rename_i nm xs
    cases q : lookT nm xs f with
    | none => simp [q] at e
    | some x =>
      simp [q] at e
      subst e
      cases (show Rep K fa G v1 _ from O.r1) with
      | @ins a C dx fl _ _ g c n q2 r =>
        subst q2
        obtain ⟨v, h1, h2⟩ := look_rep r q
        exact ⟨a, C, dx, fl, v, rfl, O.env.same _ _ g, c, n f (look_mem q), h1, k _ _ _ (O.toAt.tr h2)⟩
  · cases e
theorem SE.attr (h : SE X fa e d) (hb : attributeBase e f X.env (eval e X.env) = eval e X.env) : SE X fa (.Attribute e f pos) (den1 (gAttr f) d) :=
  h.un (fun ta pa => pe_fld pa hb) unt_attr
theorem SE.globI {x : Str} {i : Int} (hg : Gl X x) (h : ∃ t, X.mg x = some (Value.int i t)) (hd : (x == ("__debug__" : Str)) = false) : SE X fa (.Name x pos) (gC (.int i)) := by
  obtain ⟨t, h⟩ := h
  exact SE.glob (v := .int i) hg h ⟨t, rfl⟩ hd fun _ => .int i
end
/-! ### any of a list of ints -/
theorem truth_intsV {prog : Program} {w : World} {A : Around} {ns : List Int} {its : List Value} (e : Vals (ns.map V.int) its) :
    TruthOf prog w A (fun i v => its.toArray[i]? = some v) (fun i => ns.getD i 0 != 0) := fun i v s Q E hv hq => by
  have hv' : its[i]? = some v := by simpa using hv
  have hl := e.length
  rw [List.length_map] at hl
  have hi : i < its.length := (List.getElem?_eq_some_iff.mp hv').1
  have hx : (ns.map V.int)[i]? = some (V.int (ns.getD i 0)) := by
    rw [List.getElem?_map, List.getD_eq_getElem?_getD, List.getElem?_eq_getElem (by omega)]
    rfl
  obtain ⟨u, hu, ru⟩ := e.get hx
  rw [hv'] at hu
  cases hu
  obtain ⟨t, rfl⟩ := (show ∃ t, v = Value.int (ns.getD i 0) t from ru)
  have hq' : Q (ns.getD i 0 != 0) s := hq
  exact PySem.P.truthy_int hq'
theorem any_rangeI : ∀ ns : List Int, (List.range ns.length).any (fun i => ns.getD i 0 != 0) = ns.any fun x => x != 0
  | [] => rfl
  | b :: bs => by
    rw [List.length_cons, List.range_succ_eq_map, List.any_cons, List.any_map, List.any_cons, ← any_rangeI bs]
    all_goals rfl
def rAnyI (K : PySem.W.Frag) : List V → Hp → VK → Prop := fun vs H Q => ∃ (a : Addr) (ns : List Int), vs = [V.ref a] ∧ SqL K H a (ns.map V.int) ∧ Q (.bl (ns.any fun x => x != 0)) H
theorem cr_anyI {X : Cx} (hc : X.calm = true) : CallR X (.builtin "any") (rAnyI X.K) := by
  intro pins s σ H vs us Q I r h
  obtain ⟨a, bs, rfl, hs, q⟩ := h
  obtain ⟨its, rv, hl, _⟩ := I.list hs
  rw [Vals.ref1 r]
  have hb := rv.length
  rw [List.length_map] at hb
  refine call_any_walk (iter_any hl.isList fun s₂ e2 st hne => ?_)
  subst e2
  refine ⟨_, _, _, _, _, _, _, rfl, Walks.list (A := X.A.in1) (I.ok.hd hc) _ a hne its.toArray, st, truth_intsV rv, fun h' tk hk => ?_⟩
  refine ⟨.bl _, H, I.kept fun b o eo => hk b o (fun hmem => ?_) (Heap.get?_push_of_some _ eo), ?_, q⟩
  · rcases List.mem_cons.mp hmem with e1 | hmem
    · exact absurd (e1 ▸ Heap.lt_size eo) (Nat.lt_irrefl _)
    · cases hmem
  · show Value.bool _ = Value.bool _
    rw [← any_rangeI, List.size_toArray, hb]
theorem cr_any2 {X : Cx} (hc : X.calm = true) : CallR X (.builtin "any") (fun vs H Q => rAny X.K vs H Q ∨ rAnyI X.K vs H Q) := by
  intro pins s σ H vs us Q I r h
  rcases h with h | h
  · exact cr_any hc pins s σ H vs us Q I r h
  · exact cr_anyI hc pins s σ H vs us Q I r h
def gAny2 (ρ : REnv) (l : L) : Option L := match gAny ρ l with
  | some r => some r
  | none => ((l.lview ρ).bind asInts).map fun ns => .t (.bl (ns.any fun x => x != 0))
theorem unt_any2 {K : PySem.W.Frag} {fa : Nat → Addr} : UnT K fa (fun x H Q => rAny K [x] H Q ∨ rAnyI K [x] H Q) gAny2 := by
  intro C0 G0 H0 G H σ ρ v1 l1 l Q O e k
  unfold gAny2 at e
  split at e
  · rename_i r q
    cases e
    exact .inl (unt_any _ _ _ _ _ _ _ _ _ _ _ O q k)
  · cases q : (l1.lview ρ).bind asInts with
    | none => simp [q] at e
    | some ns =>
      simp only [q, Option.map_some, Option.some.injEq] at e
      subst e
      obtain ⟨a, rfl, s⟩ := ints_at O q
      exact .inr ⟨a, ns, rfl, s, k _ _ _ (O.toAt.bl _)⟩
section
variable {X : Cx} {fa : Nat → Addr} {e : Expr} {pos p : Pos} {d : Den}
theorem SE.any2 (hc : X.calm = true) (hg : Gl X "any") (hm : X.mg "any" = none) (h : SE X fa e d) (he : starEach (e :: []) X.env = (false, eval e X.env) :: starEach [] X.env) : SE X fa (.Call (.Name "any" p) [e] [] pos) (den1 gAny2 d) :=
  SE.bi1 (cr_any2 hc) hg hm PyProof.Rows.boot_any h unt_any2 (by decide) (by decide) he
end
end LW
namespace LW
open PySem
open L2 (atI ixN)

/-! ### what the laws share: draws, likeness -/
abbrev ii (ns : List Int) : List T := ns.map T.int
def dDraw : DenS := (dSeq (dIfS (dAnd (dBl (den2 (gB gEq) (den2 gIx (gVar 0) (gC (.int 2))) (gC (.int 0)))) (dBl (den2 (gB gLt) (den2 gIx (gVar 0) (gC (.int 1))) (den1 gLen (den2 gIx (gVar 0) (gC (.int 0))))))) (dSeq (dSet 2 (den1 gAbs (den1 gInt (den2 gIx (den2 gIx (gVar 0) (gC (.int 0))) (den2 gIx (gVar 0) (gC (.int 1)))))))
  (dSeq (dAugS 0 gIAdd (gC (.int 1)) (gC (.int 1)))
  (dIfS (dBl (den2 (gB gGe) (gVar 2) (den2 gPow (gC (.int 10)) (gC (.int 18))))) (dAsg (gVar 2) (gSubT 0 (gC (.int 2)))) (dAsg (den2 gMod (den1 gInt (den2 gAdd (den2 gAdd (den2 gMul (den2 gIx (gVar 0) (gC (.int 3))) (gC (.int 48271))) (den2 gMul (gVar 2) (gC (.int 69621)))) (den2 gIx (gVar 0) (gC (.int 1))))) (gC (.int 2147483647))) (gSubT 0 (gC (.int 3))))))) dNx)
  (dSeq (dIfS (dBl (den2 (gB gGt) (den2 gIx (gVar 0) (gC (.int 2))) (gC (.int 0)))) (dSeq (dSet 3 (den2 gMod (den1 gInt (den2 gIx (gVar 0) (gC (.int 2)))) (gVar 1)))
  (dSeq (dAsg (den2 gDiv (den2 gIx (gVar 0) (gC (.int 2))) (gVar 1)) (gSubT 0 (gC (.int 2))))
  (dRet (gVar 3)))) dNx)
  (dSeq (dAsg (den2 gMod (den1 gInt (den2 gAdd (den2 gMul (den2 gIx (gVar 0) (gC (.int 3))) (gC (.int 16807))) (gC (.int 12345)))) (gC (.int 2147483647))) (gSubT 0 (gC (.int 3))))
  (dSeq (dSet 4 (den2 gMod (den1 gInt (den2 gAdd (den2 gMul (den2 gIx (gVar 0) (gC (.int 3))) (den2 gIx (gVar 0) (gC (.int 3)))) (den2 gIx (gVar 0) (gC (.int 3))))) (gC (.int 2147483629))))
  (dRet (den2 gMod (den2 gDiv (gVar 4) (gC (.int 11))) (gVar 1)))))))
def gDraw : List T → List T → Option (L × List T) := bodyF 2 5 [2, 3, 4] dDraw
def dAlike (fr : List T → Option L) : DenS := (dSeq (dIfS (dOr (dTru (den1 (gIsi "list") (gVar 1))) (dTru (den1 (gIsi "tuple") (gVar 1)))) (dSeq (dIfS (dOr (dBl (den2 (gB gNe) (den1 (gIsi "list") (gVar 0)) (den1 (gIsi "list") (gVar 1)))) (dBl (den2 (gB gNe) (den1 (gIsi "tuple") (gVar 0)) (den1 (gIsi "tuple") (gVar 1))))) (dRet (gC (.bl false))) dNx)
  (dSeq (dIfS (dBl (den2 (gB gNe) (den1 gLen (gVar 0)) (den1 gLen (gVar 1)))) (dRet (gC (.bl false))) dNx)
  (dRet (den2 (gB gEq) (den1 gLen (compD (iRange1 (dCons (den1 gLen (gVar 1)) dNil)) [2] (gNameT 2) (dNot (dTru (dCallP 2 fr (dCons (den2 gIx (gVar 0) (gVar 2)) (dCons (den2 gIx (gVar 1) (gVar 2)) dNil))))) (gVar 2))) (gC (.int 0)))))) dNx)
  (dSeq (dIfS (dBl (den2 (gB gIs) (gVar 1) (gC .non))) (dRet (den2 (gB gIs) (gVar 0) (gC .non))) dNx)
  (dSeq (dIfS (dTru (den1 (gIsi "bool") (gVar 1))) (dRet (dAndV (den1 (gIsi "bool") (gVar 0)) (den2 (gB gEq) (gVar 0) (gVar 1)))) dNx)
  (dSeq (dIfS (dTru (den1 (gIsi "int") (gVar 1))) (dRet (dAndV (den1 (gIsi "int") (gVar 0)) (dAndV (dNotV (den1 (gIsi "bool") (gVar 0))) (den2 (gB gEq) (gVar 0) (gVar 1))))) dNx)
  (dRet (dAndV (den1 (gIsi "str") (gVar 0)) (den2 (gB gEq) (gVar 0) (gVar 1))))))))
def fAlike : Nat → List T → Option L
  | 0 => fun _ => none
  | q + 1 => bodyP 2 3 (dAlike (fAlike q))


/-! ### _law_alike of a value and itself -/
mutual
/-- ints, None, lists and tuples of such -/
def okT : T → Bool
  | .int _ => true
  | .non => true
  | .bl _ => true
  | .lst xs => okTs xs && decide (xs.length < 10000)
  | .tup xs => okTs xs && decide (xs.length < 10000)
  | _ => false
def okTs : List T → Bool
  | [] => true
  | x :: xs => okT x && okTs xs
end
theorem okTs_mem : ∀ {xs : List T} {x : T}, okTs xs = true → x ∈ xs → okT x = true
  | y :: ys, x, h, hx => by
    simp only [okTs, Bool.and_eq_true] at h
    rcases List.mem_cons.mp hx with rfl | hx
    · exact h.1
    · exact okTs_mem h.2 hx
theorem deps_mem : ∀ {xs : List T} {x : T}, x ∈ xs → x.dep ≤ T.deps xs
  | y :: ys, x, hx => by
    simp only [T.deps]
    rcases List.mem_cons.mp hx with rfl | hx
    · omega
    · have := deps_mem hx; omega
/-- the part for lists and tuples -/
theorem alike_seq {fr : List T → Option L} {x : T} {xs : List T} (hx : x = .lst xs ∨ x = .tup xs) (hz : xs.length < 10000) (hfr : ∀ y ∈ xs, fr [y, y] = some (.t (.bl true))) :
    bodyP 2 3 (dAlike fr) [x, x] = some (.t (.bl true)) := by
  let E (z : L) : REnv := [.t x, .t x, z]
  have src : den1 gLen (gVar 1) (E .un) = some (.t (.int xs.length), E .un) := by
    rcases hx with rfl | rfl
    · exact den1_eq (l1 := .t (.lst xs)) (ρ1 := E .un) rfl rfl
    · exact den1_eq (l1 := .t (.tup xs)) (ρ1 := E .un) rfl rfl
  have src0 : den1 gLen (gVar 0) (E .un) = some (.t (.int xs.length), E .un) := by
    rcases hx with rfl | rfl
    · exact den1_eq (l1 := .t (.lst xs)) (ρ1 := E .un) rfl rfl
    · exact den1_eq (l1 := .t (.tup xs)) (ρ1 := E .un) rfl rfl
  have fe : (List.range xs.length).filter (fun _ => false) = [] := List.filter_eq_nil_iff.mpr (fun _ _ h => by cases h)
  have comp : compD (iRange1 (dCons (den1 gLen (gVar 1)) dNil)) [2] (gNameT 2) (dNot (dTru (dCallP 2 fr (dCons (den2 gIx (gVar 0) (gVar 2)) (dCons (den2 gIx (gVar 1) (gVar 2)) dNil))))) (gVar 2) (E .un)
      = some (.own (.lst (((List.range xs.length).filter fun _ => false).map fun i => T.int (i : Nat))), E .un) := by
    refine compD_eq (xs := (List.range xs.length).map fun i => T.int (i : Nat)) (ho := none) (ρ1 := E .un) (iRange1_eq src hz) (compL_fm _ (fun _ => false) (fun i : Nat => T.int (i : Nat)) _ fun i hi => ?_) (by rw [fe]; exact Nat.zero_le _)
    have hi : i < xs.length := by simpa using hi
    have hm : xs[i] ∈ xs := List.getElem_mem hi
    have ea : atI xs (i : Int) = some xs[i] := L2.atI_nat (List.getElem?_eq_getElem hi)
    refine ⟨E (.t (.int i)), E (.t (.int i)), by simp only [E, den1, den2, gVar, gC, gAdd, gSub, gMod, gNeg, gIx, gLen, gAbs, gInt, gList, gTuple, gCat, L.lview, L.view, L.tree, L.hid, L.asBl, L.asInt, L.truth, dBl, dTru, gB, gEq, gNe, gLt_e, gLe_e, gGt_e, gGe_e, dCons, dNil, dTup, dLst, dSet, stoE, dRet, dDrop, dNot, dAnd, dOr, dYes, gNameT, gTupT, gConsT, gNilT, iEnumT, iSeq, iZipT, hideO, wipeE, restE, dMeth, isOwnL, fAppend, dSl, dSome, dNone, gSl, dCallP, allT, nor, finP, Option.bind_some, Option.map_some, List.getElem?_cons_zero, List.getElem?_cons_succ, List.set_cons_zero, List.set_cons_succ, List.length_cons, List.length_nil, List.map_cons, List.map_nil, List.replicate, List.cons_append, List.nil_append, List.append_nil, Option.toList_none, Option.toList_some, Nat.reduceAdd, Nat.reduceLT, if_true], ?_, (fun z => by cases z), fun _ => by simp only [E, den1, den2, gVar, gC, gAdd, gSub, gMod, gNeg, gIx, gLen, gAbs, gInt, gList, gTuple, gCat, L.lview, L.view, L.tree, L.hid, L.asBl, L.asInt, L.truth, dBl, dTru, gB, gEq, gNe, gLt_e, gLe_e, gGt_e, gGe_e, dCons, dNil, dTup, dLst, dSet, stoE, dRet, dDrop, dNot, dAnd, dOr, dYes, gNameT, gTupT, gConsT, gNilT, iEnumT, iSeq, iZipT, hideO, wipeE, restE, dMeth, isOwnL, fAppend, dSl, dSome, dNone, gSl, dCallP, allT, nor, finP, Option.bind_some, Option.map_some, List.getElem?_cons_zero, List.getElem?_cons_succ, List.set_cons_zero, List.set_cons_succ, List.length_cons, List.length_nil, List.map_cons, List.map_nil, List.replicate, List.cons_append, List.nil_append, List.append_nil, Option.toList_none, Option.toList_some]⟩
    have ix : ∀ k : Nat, (k = 0 ∨ k = 1) → den2 gIx (gVar k) (gVar 2) (E (.t (.int i))) = some (.t xs[i], E (.t (.int i))) := by
      rintro k hk
      have hv : gVar k (E (.t (.int i))) = some (.t x, E (.t (.int i))) := by rcases hk with rfl | rfl <;> rfl
      refine den2_eq hv (l2 := .t (.int i)) (ρ2 := E (.t (.int i))) rfl ?_
      rcases hx with rfl | rfl
      · exact gIx_l _ ea
      · simp only [gIx, ea, Option.map_some]
    have call : dCallP 2 fr (dCons (den2 gIx (gVar 0) (gVar 2)) (dCons (den2 gIx (gVar 1) (gVar 2)) dNil)) (E (.t (.int i))) = some (.t (.bl true), E (.t (.int i))) := dCallP_eq (dCons_eq (ix 0 (.inl rfl)) rfl (dCons_eq (ix 1 (.inr rfl)) rfl (ρ2 := E (.t (.int i))) (ts := []) rfl)) rfl (hfr _ hm) rfl
    simp only [dNot, dTru, call, Option.bind_some, L.truth, Option.map_some, Bool.not_true]
  have fin : den2 (gB gEq) (den1 gLen (compD (iRange1 (dCons (den1 gLen (gVar 1)) dNil)) [2] (gNameT 2) (dNot (dTru (dCallP 2 fr (dCons (den2 gIx (gVar 0) (gVar 2)) (dCons (den2 gIx (gVar 1) (gVar 2)) dNil))))) (gVar 2))) (gC (.int 0)) (E .un) = some (.t (.bl true), E .un) := by
    refine den2_eq (den1_eq comp rfl) (l2 := .t (.int 0)) (ρ2 := E .un) rfl ?_
    rw [fe]
    rfl
  have q0 : gVar 0 (E .un) = some (.t x, E .un) := rfl
  have q1 : gVar 1 (E .un) = some (.t x, E .un) := rfl
  have ne0 : den2 (gB gNe) (den1 gLen (gVar 0)) (den1 gLen (gVar 1)) (E .un) = some (.t (.bl false), E .un) := den2_eq src0 src (by
    simp only [gB, gNe, gEq, L.view, eqOk_int, if_true, Option.map_some, eqv_int, decide_true, Bool.not_true])
  have t1 : dOr (dTru (den1 (gIsi "list") (gVar 1))) (dTru (den1 (gIsi "tuple") (gVar 1))) (E .un) = some (true, E .un) := by
    rcases hx with rfl | rfl <;> rfl
  have t2 : dOr (dBl (den2 (gB gNe) (den1 (gIsi "list") (gVar 0)) (den1 (gIsi "list") (gVar 1)))) (dBl (den2 (gB gNe) (den1 (gIsi "tuple") (gVar 0)) (den1 (gIsi "tuple") (gVar 1)))) (E .un) = some (false, E .un) := by
    rcases hx with rfl | rfl <;> rfl
  have t3 : dBl (den2 (gB gNe) (den1 gLen (gVar 0)) (den1 gLen (gVar 1))) (E .un) = some (false, E .un) := by
    simp only [dBl, ne0, Option.bind_some, L.asBl, Option.map_some]
  refine bodyP_t (ρ' := E .un) rfl ?_
  show dAlike fr (E .un) = _
  rw [dAlike]
  refine dSeq_ret ?_
  rw [dIfS_t t1, dSeq_nx (ρ' := E .un) (by rw [dIfS_f t2]; rfl), dSeq_nx (ρ' := E .un) (by rw [dIfS_f t3]; rfl)]
  exact dRet_eq fin
theorem alike_flat {fr : List T → Option L} {x : T} (hx : x = .non ∨ ∃ i, x = .int i) : bodyP 2 3 (dAlike fr) [x, x] = some (.t (.bl true)) := by
  rcases hx with rfl | ⟨i, rfl⟩
  · rfl
  · refine bodyP_t (ρ' := [.t (.int i), .t (.int i), .un]) rfl ?_
    show dAlike fr [.t (.int i), .t (.int i), .un] = _
    have e : den2 (gB gEq) (gVar 0) (gVar 1) [.t (.int i), .t (.int i), .un] = some (.t (.bl true), [.t (.int i), .t (.int i), .un]) := den2_eq (l1 := .t (.int i)) (l2 := .t (.int i)) (ρ1 := [.t (.int i), .t (.int i), .un]) rfl rfl (by
      simp only [gB, gEq, L.view, eqOk_int, if_true, Option.map_some, eqv_int, decide_true])
    rw [dAlike]
    rw [dSeq_nx (ρ' := [.t (.int i), .t (.int i), .un]) rfl, dSeq_nx (ρ' := [.t (.int i), .t (.int i), .un]) rfl, dSeq_nx (ρ' := [.t (.int i), .t (.int i), .un]) rfl]
    refine dSeq_ret ?_
    rw [dIfS_t (ρ' := [.t (.int i), .t (.int i), .un]) rfl]
    refine dRet_eq (l := .t (.bl true)) ?_
    have a1 : den1 (gIsi "int") (gVar 0) [.t (.int i), .t (.int i), .un] = some (.t (.bl true), [.t (.int i), .t (.int i), .un]) := rfl
    have a2 : dNotV (den1 (gIsi "bool") (gVar 0)) [.t (.int i), .t (.int i), .un] = some (.t (.bl true), [.t (.int i), .t (.int i), .un]) := rfl
    simp only [dAndV, a1, a2, Option.bind_some, L.asBl, if_true, e]
theorem ev_alike : ∀ (q : Nat) (x : T), okT x = true → x.dep < q → fAlike q [x, x] = some (.t (.bl true))
  | 0, x, _, h => absurd h (Nat.not_lt_zero _)
  | q + 1, .non, _, _ => alike_flat (.inl rfl)
  | q + 1, .int i, _, _ => alike_flat (.inr ⟨i, rfl⟩)
  | q + 1, .lst xs, h, hd => by
    simp only [okT, Bool.and_eq_true, decide_eq_true_eq] at h
    simp only [T.dep] at hd
    exact alike_seq (.inl rfl) h.2 fun y hy => ev_alike q y (okTs_mem h.1 hy) (by have := deps_mem hy; omega)
  | q + 1, .tup xs, h, hd => by
    simp only [okT, Bool.and_eq_true, decide_eq_true_eq] at h
    simp only [T.dep] at hd
    exact alike_seq (.inr rfl) h.2 fun y hy => ev_alike q y (okTs_mem h.1 hy) (by have := deps_mem hy; omega)
  | q + 1, .bl b, _, _ => by cases b <;> rfl
  | q + 1, .str _, h, _ => by cases h
  | q + 1, .lkl _, h, _ => by cases h
  | q + 1, .fn _, h, _ => by cases h
  | q + 1, .dic _ _ _, h, _ => by cases h
  | q + 1, .ins _ _, h, _ => by cases h
theorem okTs_ii : ∀ ns : List Int, okTs (ii ns) = true
  | [] => rfl
  | n :: ns => by simp only [ii, List.map_cons, okTs, okT, Bool.true_and]; exact okTs_ii ns
theorem alike_ii {ns : List Int} (h : ns.length < 10000) : fAlike 5 [.lst (ii ns), .lst (ii ns)] = some (.t (.bl true)) := by
  refine ev_alike 5 _ ?_ ?_
  · simp only [okT, okTs_ii, Bool.true_and, decide_eq_true_eq, ii, List.length_map]; exact h
  · simp only [T.dep, ii, deps_ii]; decide
theorem okTs_pairs : ∀ ps : List (Int × Int), okTs (ps.map pairT) = true
  | [] => rfl
  | p :: ps => by simp only [List.map_cons, okTs, pairT, okT, Bool.true_and, Bool.and_eq_true]; exact ⟨rfl, okTs_pairs ps⟩
theorem deps_pairs : ∀ ps : List (Int × Int), T.deps (ps.map pairT) ≤ 1
  | [] => by simp [T.deps]
  | p :: ps => by
    have := deps_pairs ps
    have e : (pairT p).dep = 1 := rfl
    simp only [List.map_cons, T.deps, e]
    omega
theorem alike_pairs {ps : List (Int × Int)} (h : ps.length < 10000) : fAlike 5 [.lst (ps.map pairT), .lst (ps.map pairT)] = some (.t (.bl true)) := by
  refine ev_alike 5 _ ?_ ?_
  · simp only [okT, okTs_pairs, Bool.true_and, decide_eq_true_eq, List.length_map]; exact h
  · have := deps_pairs ps
    simp only [T.dep]; omega
theorem alike_int (i : Int) : fAlike 5 [.int i, .int i] = some (.t (.bl true)) := ev_alike 5 _ rfl (show 0 < 5 from by decide)
theorem alike_non : fAlike 5 [.non, .non] = some (.t (.bl true)) := ev_alike 5 _ rfl (show 0 < 5 from by decide)


theorem bodyF_t {n m : Nat} {as : List Nat} {d : DenS} {xs ts ys : List T} {ρ' : REnv} {x : T} (hl : (decide (ts.length + 1 = n) && !as.contains 0) = true) (h : d (L.own (.lst xs) :: (ts.map L.t ++ List.replicate (m - n) L.un)) = some (.ret (.t x), ρ')) (h0 : ρ'[0]? = some (L.own (.lst ys))) : bodyF n m as d xs ts = some (.t x, ys) := by
  simp only [bodyF, hl, h, h0, if_true, Option.bind_some, finP, Option.map_some]
/-- the feed: cells, place, number, state -/
def FD (cs : List Int) (a b c : Int) : List T := [.lst (ii cs), .int a, .int b, .int c]
def GF (fd : List T) : Prop := ∃ (cs : List Int) (a b c : Int), fd = FD cs a b c ∧ 0 ≤ a ∧ 0 ≤ b ∧ 0 ≤ c ∧ c < 2147483647
section
variable (cs : List Int) (a b c m : Int) (x y z : L)
def Fe : REnv := [.own (.lst (FD cs a b c)), .t (.int m), x, y, z]
theorem rd0 : den2 gIx (gVar 0) (gC (.int 0)) (Fe cs a b c m x y z) = some (.t (.lst (ii cs)), Fe cs a b c m x y z) := rfl
theorem rd1 : den2 gIx (gVar 0) (gC (.int 1)) (Fe cs a b c m x y z) = some (.t (.int a), Fe cs a b c m x y z) := rfl
theorem rd2 : den2 gIx (gVar 0) (gC (.int 2)) (Fe cs a b c m x y z) = some (.t (.int b), Fe cs a b c m x y z) := rfl
theorem rd3 : den2 gIx (gVar 0) (gC (.int 3)) (Fe cs a b c m x y z) = some (.t (.int c), Fe cs a b c m x y z) := rfl
theorem st2 {d : Den} {v : Int} (h : d (Fe cs a b c m x y z) = some (.t (.int v), Fe cs a b c m x y z)) : dAsg d (gSubT 0 (gC (.int 2))) (Fe cs a b c m x y z) = some (.nx, Fe cs a v c m x y z) := by rw [dAsg, h]; rfl
theorem st3 {d : Den} {v : Int} (h : d (Fe cs a b c m x y z) = some (.t (.int v), Fe cs a b c m x y z)) : dAsg d (gSubT 0 (gC (.int 3))) (Fe cs a b c m x y z) = some (.nx, Fe cs a b v m x y z) := by rw [dAsg, h]; rfl
theorem au1 : dAugS 0 gIAdd (gC (.int 1)) (gC (.int 1)) (Fe cs a b c m x y z) = some (.nx, Fe cs (a + 1) b c m x y z) := rfl
end
theorem gEq_i (ρ : REnv) (i j : Int) : gB gEq ρ (.t (.int i)) (.t (.int j)) = some (.t (.bl (decide (i = j)))) := by simp only [gB, gEq, L.view, eqOk_int, if_true, eqv_int, Option.map_some]
theorem gLt_i (ρ : REnv) (i j : Int) : gB gLt ρ (.t (.int i)) (.t (.int j)) = some (.t (.bl (decide (i < j)))) := rfl
theorem gGt_i (ρ : REnv) (i j : Int) : gB gGt ρ (.t (.int i)) (.t (.int j)) = some (.t (.bl (decide (j < i)))) := rfl
theorem gGe_i (ρ : REnv) (i j : Int) : gB gGe ρ (.t (.int i)) (.t (.int j)) = some (.t (.bl (decide (j ≤ i)))) := rfl
theorem dBl_eq {d : Den} {ρ ρ' : REnv} {b : Bool} (h : d ρ = some (.t (.bl b), ρ')) : dBl d ρ = some (b, ρ') := by simp only [dBl, h, Option.bind_some, L.asBl, Option.map_some]
theorem gAdd_i (ρ : REnv) (i j : Int) : gAdd ρ (.t (.int i)) (.t (.int j)) = some (.t (.int (i + j))) := rfl
theorem gInt_i (ρ : REnv) (i : Int) : gInt ρ (.t (.int i)) = some (.t (.int i)) := rfl
theorem gAbs_i (ρ : REnv) (i : Int) : ∃ w, gAbs ρ (.t (.int i)) = some (.t (.int w)) ∧ 0 ≤ w := by
  refine ⟨if i < 0 then -i else i, rfl, ?_⟩
  split <;> omega
theorem draw_stage1 (cs : List Int) (a b c m : Int) (ha : 0 ≤ a) (hb : 0 ≤ b) (hc : 0 ≤ c) (hc2 : c < 2147483647) :
    ∃ a1 b1 c1 x, 0 ≤ a1 ∧ 0 ≤ b1 ∧ 0 ≤ c1 ∧ c1 < 2147483647 ∧ (dIfS (dAnd (dBl (den2 (gB gEq) (den2 gIx (gVar 0) (gC (.int 2))) (gC (.int 0)))) (dBl (den2 (gB gLt) (den2 gIx (gVar 0) (gC (.int 1))) (den1 gLen (den2 gIx (gVar 0) (gC (.int 0))))))) (dSeq (dSet 2 (den1 gAbs (den1 gInt (den2 gIx (den2 gIx (gVar 0) (gC (.int 0))) (den2 gIx (gVar 0) (gC (.int 1)))))))
  (dSeq (dAugS 0 gIAdd (gC (.int 1)) (gC (.int 1)))
  (dIfS (dBl (den2 (gB gGe) (gVar 2) (den2 gPow (gC (.int 10)) (gC (.int 18))))) (dAsg (gVar 2) (gSubT 0 (gC (.int 2)))) (dAsg (den2 gMod (den1 gInt (den2 gAdd (den2 gAdd (den2 gMul (den2 gIx (gVar 0) (gC (.int 3))) (gC (.int 48271))) (den2 gMul (gVar 2) (gC (.int 69621)))) (den2 gIx (gVar 0) (gC (.int 1))))) (gC (.int 2147483647))) (gSubT 0 (gC (.int 3))))))) dNx) (Fe cs a b c m .un .un .un) = some (.nx, Fe cs a1 b1 c1 m x .un .un) := by
  have len : den1 gLen (den2 gIx (gVar 0) (gC (.int 0))) (Fe cs a b c m .un .un .un) = some (.t (.int cs.length), Fe cs a b c m .un .un .un) := by
    have e : (ii cs).length = cs.length := by simp [ii]
    exact den1_eq (rd0 cs a b c m .un .un .un) (by simp only [gLen, L.lview, e, Option.map_some])
  have k1 := dBl_eq (den2_eq (g := gB gEq) (rd2 cs a b c m .un .un .un) (d2 := gC (.int 0)) (l2 := .t (.int 0)) rfl (gEq_i _ b 0))
  have k2 := dBl_eq (den2_eq (g := gB gLt) (rd1 cs a b c m .un .un .un) len (gLt_i _ a cs.length))
  by_cases hcond : b = 0 ∧ a < cs.length
  · obtain ⟨h1, h2⟩ := hcond
    rw [decide_eq_true h1] at k1
    rw [decide_eq_true h2] at k2
    have kk : dAnd (dBl (den2 (gB gEq) (den2 gIx (gVar 0) (gC (.int 2))) (gC (.int 0)))) (dBl (den2 (gB gLt) (den2 gIx (gVar 0) (gC (.int 1))) (den1 gLen (den2 gIx (gVar 0) (gC (.int 0)))))) (Fe cs a b c m .un .un .un) = some (true, Fe cs a b c m .un .un .un) := by
      simp only [dAnd, k1, Option.bind_some, if_true, k2]
    rw [dIfS_t kk]
    have ea := atI_ints (ns := cs) ha h2
    obtain ⟨w, hw, hw0⟩ := gAbs_i (Fe cs a b c m .un .un .un) (cs.getD a.toNat 0)
    have s1 : dSet 2 (den1 gAbs (den1 gInt (den2 gIx (den2 gIx (gVar 0) (gC (.int 0))) (den2 gIx (gVar 0) (gC (.int 1)))))) (Fe cs a b c m .un .un .un) = some (.nx, Fe cs a b c m (.t (.int w)) .un .un) :=
      dSet_t (den1_eq (den1_eq (den2_eq (rd0 cs a b c m .un .un .un) (rd1 cs a b c m .un .un .un) (gIx_l _ ea)) (gInt_i _ _)) hw) (show 2 < 5 from by decide)
    rw [dSeq_nx s1, dSeq_nx (au1 cs a b c m (.t (.int w)) .un .un)]
    have k3 := dBl_eq (den2_eq (g := gB gGe) (d1 := gVar 2) (ρ := Fe cs (a + 1) b c m (.t (.int w)) .un .un) (l1 := .t (.int w)) rfl (d2 := den2 gPow (gC (.int 10)) (gC (.int 18))) (l2 := .t (.int 1000000000000000000)) (ρ2 := Fe cs (a + 1) b c m (.t (.int w)) .un .un) (by rfl) (gGe_i _ w 1000000000000000000))
    by_cases hw2 : 1000000000000000000 ≤ w
    · rw [decide_eq_true hw2] at k3
      rw [dIfS_t k3]
      exact ⟨a + 1, w, c, .t (.int w), by omega, by omega, hc, hc2, st2 cs (a + 1) b c m (.t (.int w)) .un .un rfl⟩
    · rw [decide_eq_false hw2] at k3
      rw [dIfS_f k3]
      have m1 := den2_eq (g := gMul) (rd3 cs (a + 1) b c m (.t (.int w)) .un .un) (d2 := gC (.int 48271)) (l2 := .t (.int 48271)) rfl (gMul_e _ (mulOk_smallr (i := c) (j := 48271) (by decide) (by decide)))
      have m2 := den2_eq (g := gMul) (d1 := gVar 2) (ρ := Fe cs (a + 1) b c m (.t (.int w)) .un .un) (l1 := .t (.int w)) rfl (d2 := gC (.int 69621)) (l2 := .t (.int 69621)) rfl (gMul_e _ (mulOk_smallr (i := w) (j := 69621) (by decide) (by decide)))
      have m3 := den2_eq (den1_eq (den2_eq (den2_eq m1 m2 (gAdd_i _ _ _)) (rd1 cs (a + 1) b c m (.t (.int w)) .un .un) (gAdd_i _ _ _)) (gInt_i _ _)) (d2 := gC (.int 2147483647)) (l2 := .t (.int 2147483647)) rfl (gMod_e _ (by decide))
      exact ⟨a + 1, b, (c * 48271 + w * 69621 + (a + 1)) % 2147483647, .t (.int w), by omega, hb, by omega, by omega, st3 cs (a + 1) b c m (.t (.int w)) .un .un m3⟩
  · refine ⟨a, b, c, .un, ha, hb, hc, hc2, ?_⟩
    have kk : dAnd (dBl (den2 (gB gEq) (den2 gIx (gVar 0) (gC (.int 2))) (gC (.int 0)))) (dBl (den2 (gB gLt) (den2 gIx (gVar 0) (gC (.int 1))) (den1 gLen (den2 gIx (gVar 0) (gC (.int 0)))))) (Fe cs a b c m .un .un .un) = some (false, Fe cs a b c m .un .un .un) := by
      by_cases h1 : b = 0
      · have h2 : ¬ a < cs.length := fun z => hcond ⟨h1, z⟩
        rw [decide_eq_true h1] at k1
        rw [decide_eq_false h2] at k2
        simp only [dAnd, k1, Option.bind_some, if_true, k2]
      · rw [decide_eq_false h1] at k1
        simp only [dAnd, k1, Option.bind_some]
        rfl
    rw [dIfS_f kk]
    rfl
theorem ev_draw {fd : List T} {m : Int} (hf : GF fd) (hm : 0 < m) (hm2 : m < 1073741824) : ∃ v fd', gDraw fd [.int m] = some (.t (.int v), fd') ∧ 0 ≤ v ∧ v < m ∧ GF fd' := by
  obtain ⟨cs, a0, b0, c0, rfl, ha0, hb0, hc0, hc02⟩ := hf
  obtain ⟨a, b, c, x, ha, hb, hc, hc2, s1⟩ := draw_stage1 cs a0 b0 c0 m ha0 hb0 hc0 hc02
  have k1 := dBl_eq (den2_eq (g := gB gGt) (rd2 cs a b c m x .un .un) (d2 := gC (.int 0)) (l2 := .t (.int 0)) rfl (gGt_i _ b 0))
  by_cases hp : 0 < b
  · rw [decide_eq_true hp] at k1
    have t1 : dSet 3 (den2 gMod (den1 gInt (den2 gIx (gVar 0) (gC (.int 2)))) (gVar 1)) (Fe cs a b c m x .un .un) = some (.nx, Fe cs a b c m x (.t (.int (b % m))) .un) :=
      dSet_t (den2_eq (den1_eq (rd2 cs a b c m x .un .un) (gInt_i _ _)) (l2 := .t (.int m)) (ρ2 := Fe cs a b c m x .un .un) rfl (gMod_e _ hm)) (show 3 < 5 from by decide)
    have t2 := st2 cs a b c m x (.t (.int (b % m))) .un (d := den2 gDiv (den2 gIx (gVar 0) (gC (.int 2))) (gVar 1)) (v := b / m) (den2_eq (rd2 cs a b c m x (.t (.int (b % m))) .un) (l2 := .t (.int m)) (ρ2 := Fe cs a b c m x (.t (.int (b % m))) .un) rfl (gDiv_e _ hm hm2))
    refine ⟨b % m, FD cs a (b / m) c, ?_, Int.emod_nonneg _ (by omega), Int.emod_lt_of_pos _ hm, ⟨cs, a, b / m, c, rfl, ha, Int.ediv_nonneg hb (by omega), hc, hc2⟩⟩
    refine bodyF_t (ρ' := Fe cs a (b / m) c m x (.t (.int (b % m))) .un) rfl ?_ rfl
    show dDraw (Fe cs a0 b0 c0 m .un .un .un) = _
    rw [dDraw, dSeq_nx s1]
    refine dSeq_ret ?_
    rw [dIfS_t k1, dSeq_nx t1, dSeq_nx t2]
    rfl
  · rw [decide_eq_false hp] at k1
    have m1 := den2_eq (g := gMul) (rd3 cs a b c m x .un .un) (d2 := gC (.int 16807)) (l2 := .t (.int 16807)) rfl (gMul_e _ (mulOk_smallr (i := c) (j := 16807) (by decide) (by decide)))
    have m2 := den2_eq (den1_eq (den2_eq m1 (d2 := gC (.int 12345)) (l2 := .t (.int 12345)) rfl (gAdd_i _ _ _)) (gInt_i _ _)) (d2 := gC (.int 2147483647)) (l2 := .t (.int 2147483647)) rfl (gMod_e _ (by decide))
    have t1 := st3 cs a b c m x .un .un m2
    generalize hc' : (c * 16807 + 12345) % 2147483647 = c' at t1
    have hc1 : 0 ≤ c' := by omega
    have hc3 : c' < 2147483647 := by omega
    have m3 := den2_eq (g := gMul) (rd3 cs a b c' m x .un .un) (rd3 cs a b c' m x .un .un) (gMul_e _ (mulOk_small (i := c') (j := c') (by omega) (by omega)))
    have m4 := den2_eq (den1_eq (den2_eq m3 (rd3 cs a b c' m x .un .un) (gAdd_i _ _ _)) (gInt_i _ _)) (d2 := gC (.int 2147483629)) (l2 := .t (.int 2147483629)) rfl (gMod_e _ (by decide))
    have t2 : dSet 4 _ (Fe cs a b c' m x .un .un) = some (.nx, Fe cs a b c' m x .un (.t (.int ((c' * c' + c') % 2147483629)))) := dSet_t m4 (show 4 < 5 from by decide)
    generalize hv : (c' * c' + c') % 2147483629 = w at t2
    have t3 := den2_eq (den2_eq (d1 := gVar 4) (ρ := Fe cs a b c' m x .un (.t (.int w))) (l1 := .t (.int w)) rfl (d2 := gC (.int 11)) (l2 := .t (.int 11)) rfl (gDiv_e _ (by decide) (by decide))) (d2 := gVar 1) (l2 := .t (.int m)) (ρ2 := Fe cs a b c' m x .un (.t (.int w))) rfl (gMod_e _ hm)
    refine ⟨w / 11 % m, FD cs a b c', ?_, Int.emod_nonneg _ (by omega), Int.emod_lt_of_pos _ hm, ⟨cs, a, b, c', rfl, ha, hb, hc1, hc3⟩⟩
    refine bodyF_t (ρ' := Fe cs a b c' m x .un (.t (.int w))) rfl ?_ rfl
    show dDraw (Fe cs a0 b0 c0 m .un .un .un) = _
    rw [dDraw, dSeq_nx s1, dSeq_nx (by rw [dIfS_f k1]; rfl), dSeq_nx t1, dSeq_nx t2]
    exact dRet_eq t3


/-! ### draws within expressions -/
theorem draw_call {i : Nat} {da : DenA} {ρ ρ1 : REnv} {fd : List T} {m : Int} (ho : isOwnL ρ i = true) (ha : da ρ = some ([.int m], ρ1)) (h1 : ρ1[i]? = some (.own (.lst fd))) (hf : GF fd) (hm : 0 < m) (hm2 : m < 1073741824) :
    ∃ v fd', dCallF 2 i gDraw da ρ = some (.t (.int v), ρ1.set i (.own (.lst fd'))) ∧ 0 ≤ v ∧ v < m ∧ GF fd' := by
  obtain ⟨v, fd', e, h2, h3, h4⟩ := ev_draw hf hm hm2
  refine ⟨v, fd', ?_, h2, h3, h4⟩
  simp only [dCallF, ho, ha, h1, e, if_true, Option.bind_some, List.length_cons, List.length_nil, Nat.zero_add, Nat.reduceAdd, nor, Option.map_some]
/-- a comprehension of draws -/
theorem compL_draw {vs : List Nat} {g : DenG} {de : Den} {m : Int} (Ef : List T → REnv) : ∀ xs : List T,
    (∀ x ∈ xs, ∀ fd, GF fd → ∃ ρa v fd' ρb, g x (Ef fd) = some ρa ∧ de ρa = some (.t (.int v), ρb) ∧ wipeE ρb vs = Ef fd' ∧ 0 ≤ v ∧ v < m ∧ GF fd') →
    ∀ fd, GF fd → ∃ ys fd', compL vs g dYes de xs (Ef fd) = some (ii ys, Ef fd') ∧ ys.length = xs.length ∧ (∀ y ∈ ys, 0 ≤ y ∧ y < m) ∧ GF fd'
  | [], _, fd, hf => ⟨[], fd, rfl, rfl, (fun y hy => by cases hy), hf⟩
  | x :: xs, h, fd, hf => by
    obtain ⟨ρa, v, fd1, ρb, h1, h2, h3, h4, h5, h6⟩ := h x List.mem_cons_self fd hf
    obtain ⟨ys, fd2, h7, h8, h9, h10⟩ := compL_draw Ef xs (fun y hy => h y (List.mem_cons_of_mem _ hy)) fd1 h6
    refine ⟨v :: ys, fd2, ?_, by simp [h8], fun y hy => ?_, h10⟩
    · simp only [compL, h1, Option.bind_some, dYes, if_true, h2, L.tree, h3, h7, Option.map_some, ii, List.map_cons]
    · rcases List.mem_cons.mp hy with rfl | hy
      · exact ⟨h4, h5⟩
      · exact h9 y hy

theorem dLst_eq {da : DenA} {ρ ρ1 : REnv} {ts : List T} (h : da ρ = some (ts, ρ1)) (hz : ts.length ≤ line) : dLst da ρ = some (.own (.lst ts), ρ1) := by simp only [dLst, h, Option.bind_some, hz, if_true]
theorem dTup_eq {da : DenA} {ρ ρ1 : REnv} {ts : List T} (h : da ρ = some (ts, ρ1)) (hz : ts.length ≤ line) : dTup da ρ = some (.t (.tup ts), ρ1) := by simp only [dTup, h, Option.bind_some, hz, if_true]
theorem gMul_one (ρ : REnv) (x : T) {k : Int} (h0 : 0 ≤ k) (h1 : k < 1000) : gMul ρ (.own (.lst [x])) (.t (.int k)) = some (.own (.lst (List.replicate k.toNat x))) := by
  have c : (decide (-(9223372036854775808) ≤ k) && decide (k < 9223372036854775808) && decide ([x].length * k.toNat ≤ line)) = true := by
    simp only [Bool.and_eq_true, decide_eq_true_eq]
    exact ⟨⟨by omega, by omega⟩, by show 1 * k.toNat ≤ 16777216; omega⟩
  have e : (List.replicate k.toNat [x]).flatten = List.replicate k.toNat x := List.flatten_replicate_singleton
  unfold gMul
  simp only [L.lview, c, if_true, e]
theorem rep_ii (m : Nat) (x : Int) : List.replicate m (T.int x) = ii (List.replicate m x) := by simp [ii]
theorem dSl_eq {d : Den} {dl dh : DenO} {ρ ρ1 ρ2 ρ3 : REnv} {l r : L} {lo hi : Option Int} (h : d ρ = some (l, ρ1)) (hl : dl ρ1 = some (lo, ρ2)) (hh : dh ρ2 = some (hi, ρ3)) (hg : gSl ρ3 l lo hi = some r) : dSl d dl dh ρ = some (r, ρ3) := by
  simp only [dSl, h, hl, hh, hg, Option.bind_some, Option.map_some]
theorem dSome_eq {d : Den} {ρ ρ1 : REnv} {i : Int} (h : d ρ = some (.t (.int i), ρ1)) : dSome d ρ = some (some i, ρ1) := by simp only [dSome, h, Option.bind_some, L.asInt, Option.map_some]
theorem gSl_o (ρ : REnv) {k : Nat} {xs : List T} {lo hi : Option Int} (h : ρ[k]? = some (.own (.lst xs))) : gSl ρ (.ref k) lo hi = some (.own (.lst (cutT xs lo hi))) := by simp only [gSl, L.lview, h, Option.map_some]
theorem gSl_n (ρ : REnv) {xs : List T} {lo hi : Option Int} : gSl ρ (.own (.lst xs)) lo hi = some (.own (.lst (cutT xs lo hi))) := by simp only [gSl, L.lview, Option.map_some]
theorem gSl_l (ρ : REnv) {xs : List T} {lo hi : Option Int} : gSl ρ (.t (.lst xs)) lo hi = some (.own (.lst (cutT xs lo hi))) := by simp only [gSl, L.lview, Option.map_some]
theorem gSl_t (ρ : REnv) {xs : List T} {lo hi : Option Int} : gSl ρ (.t (.tup xs)) lo hi = some (.t (.tup (cutT xs lo hi))) := by simp only [gSl]
theorem gAdd_o (ρ : REnv) {a b : List T} (h : a.length + b.length ≤ line) : gAdd ρ (.own (.lst a)) (.own (.lst b)) = some (.own (.lst (a ++ b))) := by simp only [gAdd, gCat, L.lview, h, if_true]
theorem gAdd_ro (ρ : REnv) {k : Nat} {a b : List T} (hr : ρ[k]? = some (.own (.lst a))) (h : a.length + b.length ≤ line) : gAdd ρ (.ref k) (.own (.lst b)) = some (.own (.lst (a ++ b))) := by simp only [gAdd, gCat, L.lview, hr, h, if_true]
theorem gAdd_t (ρ : REnv) {a b : List T} (h : a.length + b.length ≤ line) : gAdd ρ (.t (.tup a)) (.t (.tup b)) = some (.t (.tup (a ++ b))) := by simp only [gAdd, h, if_true]
theorem gIx_n (ρ : REnv) {xs : List T} {i : Int} {x : T} (e : atI xs i = some x) : gIx ρ (.own (.lst xs)) (.t (.int i)) = some (.t x) := by simp only [gIx, L.lview, e, Option.bind_some, Option.map_some]
theorem gIx_t (ρ : REnv) {xs : List T} {i : Int} {x : T} (e : atI xs i = some x) : gIx ρ (.t (.tup xs)) (.t (.int i)) = some (.t x) := by simp only [gIx, e, Option.map_some]
theorem dTru_b {d : Den} {ρ ρ' : REnv} {b : Bool} (h : d ρ = some (.t (.bl b), ρ')) : dTru d ρ = some (b, ρ') := by simp only [dTru, h, Option.bind_some, L.truth, Option.map_some]
theorem dNot_t {d : DenT} {ρ ρ' : REnv} {b : Bool} (h : d ρ = some (b, ρ')) : dNot d ρ = some (!b, ρ') := by simp only [dNot, h, Option.map_some]
theorem dOr_ff {d d' : DenT} {ρ ρ1 ρ2 : REnv} (h : d ρ = some (false, ρ1)) (h2 : d' ρ1 = some (false, ρ2)) : dOr d d' ρ = some (false, ρ2) := by simp [dOr, h, h2]
theorem dSet_n {i : Nat} {d : Den} {ρ ρ' : REnv} {l : L} (h : d ρ = some (l, ρ')) (hl : stoE i l ρ' = some (ρ'.set i l)) : dSet i d ρ = some (.nx, ρ'.set i l) := by simp [dSet, h, hl]
theorem getD_range {f : Nat → Int} {n i : Nat} (h : i < n) : ((List.range n).map f).getD i 0 = f i := by simp [List.getD_eq_getElem?_getD, h]
theorem ext_getD {a b : List Int} (hl : a.length = b.length) (h : ∀ i, i < a.length → a.getD i 0 = b.getD i 0) : a = b := by
  refine List.ext_getElem hl fun i h1 h2 => ?_
  have := h i h1
  simpa [List.getD_eq_getElem?_getD, h1, h2] using this
theorem meth_app {i : Nat} {da : DenA} {ρ ρ1 : REnv} {xs : List T} {x : T} (ho : isOwnL ρ i = true) (ha : da ρ = some ([x], ρ1)) (h1 : ρ1[i]? = some (.own (.lst xs))) (hz : xs.length < line) :
    dDrop (dMeth i fAppend da) ρ = some (.nx, ρ1.set i (.own (.lst (xs ++ [x])))) := by
  simp only [dDrop, dMeth, ho, ha, h1, if_true, Option.bind_some, app_own hz, Option.map_some]
theorem dIfS_eq {c : DenT} {d d' : DenS} {ρ ρ' : REnv} {b : Bool} (h : c ρ = some (b, ρ')) : dIfS c d d' ρ = if b = true then d ρ' else d' ρ' := by
  cases b
  · rw [dIfS_f h]; rfl
  · rw [dIfS_t h]; rfl
end LW
namespace LW
open PySem
open L2 (atI ixN)
/-! ### more of meanings, for any law -/
theorem dAug_eq {i : Nat} {g : REnv → L → L → Option L} {d : Den} {ρ ρ1 : REnv} {x y : T} {l : L} (h0 : ρ[i]? = some (.t x)) (h : d ρ = some (l, ρ1)) (hg : g ρ1 (.t x) l = some (.t y)) (hi : i < ρ1.length) : dAug i g d ρ = some (.nx, ρ1.set i (.t y)) := by
  simp only [dAug, h0, h, hg, Option.bind_some, stoE, hi, if_true, Option.map_some]
theorem gIMul_e (ρ : REnv) {i j : Int} (h : -(18446744073709551616) < j) (h2 : j < 18446744073709551616) : gIMul ρ (.t (.int i)) (.t (.int j)) = some (.t (.int (i * j))) := by simp [gIMul, h, h2]
theorem compD2_eq {src : DenI} {src1 : DenI0} {vs vs1 : List Nat} {g g1 : DenG} {dt dt1 : DenT} {de : Den} {ρ ρ1 ρ2 : REnv} {xs ys : List T} {ho : Option Nat} (hs : src ρ = some (xs, ho, ρ1)) (hl : compL2 vs g dt src1 vs1 g1 dt1 de xs (wipeE (hideO ho ρ1) vs) = some (ys, ρ2)) (hz : ys.length ≤ line) :
    compD2 src vs g dt src1 vs1 g1 dt1 de ρ = some (.own (.lst ys), restE ρ1 ρ2 (ho.toList ++ vs)) := by simp [compD2, hs, hl, hz]
theorem compL2_m {α : Type} {src1 : DenI0} {vs vs1 : List Nat} {g g1 : DenG} {dt1 : DenT} {de : Den} {ρ : REnv} (t : α → T) (y : α → List T) : ∀ as : List α,
    (∀ a ∈ as, ∃ ρa xs1 ρb ρc, g (t a) ρ = some ρa ∧ src1 ρa = some (xs1, ρb) ∧ compL vs1 g1 dt1 de xs1 (wipeE ρb vs1) = some (y a, ρc) ∧ wipeE ρc vs = ρ) → compL2 vs g dYes src1 vs1 g1 dt1 de (as.map t) ρ = some (as.flatMap y, ρ)
  | [], _ => rfl
  | a :: as, h => by
    obtain ⟨ρa, xs1, ρb, ρc, h1, h2, h3, h4⟩ := h a List.mem_cons_self
    have ih := compL2_m t y as fun x hx => h x (List.mem_cons_of_mem _ hx)
    simp only [List.map_cons, compL2, h1, Option.bind_some, dYes, if_true, h2, h3, h4, ih, Option.map_some, List.flatMap_cons]
theorem ii_len (ns : List Int) : (ii ns).length = ns.length := by simp [ii]
theorem clns_tups : ∀ ps : List (List Int), T.clns (ps.map tupT) = true
  | [] => rfl
  | p :: ps => by simp only [List.map_cons, T.clns, tupT, T.cln, clns_ii, Bool.true_and]; exact clns_tups ps
theorem deps_tups : ∀ ps : List (List Int), T.deps (ps.map tupT) ≤ 1
  | [] => Nat.zero_le _
  | p :: ps => by
    have h1 := deps_tups ps
    have h2 : T.deps (ii p) = 0 := deps_ii p
    show max (T.deps (ii p) + 1) (T.deps (ps.map tupT)) ≤ 1
    rw [h2]
    exact Nat.max_le.mpr ⟨Nat.le_refl _, h1⟩
theorem shp_tups (ps : List (List Int)) : (T.lst (ps.map tupT)).shp = true := by
  have h1 := clns_tups ps
  have h2 := deps_tups ps
  show (T.clns (ps.map tupT) && decide (T.deps (ps.map tupT) + 1 ≤ 64)) = true
  rw [h1, Bool.true_and]
  exact decide_eq_true (by omega)
theorem inl_tup (p : List Int) (ps : List (List Int)) : (tupT p).inl (ps.map tupT) = decide (p ∈ ps) := by
  unfold T.inl
  rw [List.any_map]
  have e : ((fun y => T.eqv y (tupT p)) ∘ tupT) = fun q => decide (q = p) := funext fun q => eqv_tup q p
  rw [e]
  by_cases h : p ∈ ps
  · rw [decide_eq_true h, List.any_eq_true]
    exact ⟨p, h, by simp⟩
  · rw [decide_eq_false h, List.any_eq_false]
    intro x hx
    simp only [decide_eq_true_eq]
    exact fun z => h (z ▸ hx)
theorem inl_int (p : Int) (ps : List Int) : (T.int p).inl (ii ps) = decide (p ∈ ps) := by
  unfold T.inl
  rw [ii, List.any_map]
  have e : ((fun y => T.eqv y (T.int p)) ∘ T.int) = fun q => decide (q = p) := funext fun q => eqv_int q p
  rw [e]
  by_cases h : p ∈ ps
  · rw [decide_eq_true h, List.any_eq_true]
    exact ⟨p, h, by simp⟩
  · rw [decide_eq_false h, List.any_eq_false]
    intro x hx
    simp only [decide_eq_true_eq]
    exact fun z => h (z ▸ hx)
theorem gIn_tr (ρ : REnv) {k : Nat} {x : T} {ys : List T} (hk : ρ[k]? = some (.own (.lst ys))) (h1 : x.shp = true) (h2 : (T.lst ys).shp = true) : gIn ρ (.t x) (.ref k) = some (x.inl ys) := by
  simp only [gIn, L.view, hk, h1, h2, Bool.and_self, if_true]
theorem gIn_to (ρ : REnv) {x : T} {ys : List T} (h1 : x.shp = true) (h2 : (T.lst ys).shp = true) : gIn ρ (.t x) (.own (.lst ys)) = some (x.inl ys) := by
  simp only [gIn, L.view, h1, h2, Bool.and_self, if_true]
theorem gB_e {g : REnv → L → L → Option Bool} {ρ : REnv} {l1 l2 : L} {b : Bool} (h : g ρ l1 l2 = some b) : gB g ρ l1 l2 = some (.t (.bl b)) := by simp only [gB, h, Option.map_some]
theorem gNot_e {ρ : REnv} {l1 l2 : L} {b : Bool} (h : gIn ρ l1 l2 = some b) : gNotIn ρ l1 l2 = some (!b) := by simp only [gNotIn, h, Option.map_some]
theorem gNe_i (ρ : REnv) (i j : Int) : gB gNe ρ (.t (.int i)) (.t (.int j)) = some (.t (.bl (!decide (i = j)))) := by simp only [gB, gNe, gEq, L.view, eqOk_int, if_true, eqv_int, Option.map_some]
theorem gAll_n (ρ : REnv) (bs : List Bool) : gAll ρ (.own (.lst (bs.map T.bl))) = some (.t (.bl (bs.all id))) := by simp only [gAll, L.lview, asBls_map, Option.bind_some, Option.map_some]
theorem gLen_l (ρ : REnv) (t : List Int) : gLen ρ (.t (.lst (ii t))) = some (.t (.int (t.length : Nat))) := by simp only [gLen, L.lview, ii_len, Option.map_some]
theorem gLen_tt (ρ : REnv) (t : List Int) : gLen ρ (.t (tupT t)) = some (.t (.int (t.length : Nat))) := by simp only [gLen, tupT, List.length_map]
theorem gLen_n (ρ : REnv) (t : List T) : gLen ρ (.own (.lst t)) = some (.t (.int (t.length : Nat))) := by simp only [gLen, L.lview, Option.map_some]
theorem gLen_r (ρ : REnv) {k : Nat} {t : List T} (h : ρ[k]? = some (.own (.lst t))) : gLen ρ (.ref k) = some (.t (.int (t.length : Nat))) := by simp only [gLen, L.lview, h, Option.map_some]
theorem ix_nat {t : List Int} {a : Nat} (h : a < t.length) : atI (ii t) ((a : Nat) : Int) = some (.int (t.getD a 0)) := by
  have := atI_ints (ns := t) (i := (a : Int)) (by omega) (by omega)
  rwa [Int.toNat_natCast] at this
theorem gSubT_e {j k : Nat} {di : Den} {ρ : REnv} {xs : List T} {y : T} (ho : ρ[j]? = some (.own (.lst xs))) (hd : di ρ = some (.t (.int (k : Nat)), ρ)) (hk : k < xs.length) : gSubT j di y ρ = some (ρ.set j (.own (.lst (xs.set k y)))) := by
  have h1 : isOwnL ρ j = true := by simp only [isOwnL, ho]
  have h2 : ixN xs.length ((k : Nat) : Int) = some k := by
    unfold ixN
    rw [if_pos (show (0 : Int) ≤ (k : Nat) by omega), if_pos (show ((k : Nat) : Int) < (xs.length : Nat) by omega), Int.toNat_natCast]
  simp only [gSubT, h1, hd, if_true, Option.bind_some, L.asInt, ho, h2, Option.map_some]
theorem dAsg_eq {d : Den} {g : DenG} {ρ ρ1 ρ2 : REnv} {l : L} {x : T} (h : d ρ = some (l, ρ1)) (ht : l.tree = some x) (hg : g x ρ1 = some ρ2) : dAsg d g ρ = some (.nx, ρ2) := by simp only [dAsg, h, ht, hg, Option.bind_some, Option.map_some]
theorem iiset (t : List Int) (a : Nat) (x : Int) : (ii t).set a (.int x) = ii (t.set a x) := by simp [ii, List.map_set]
theorem dFor_h {as : List Nat} {src : DenI} {g : DenG} {db : DenS} {ρ ρ1 ρ2 : REnv} {xs : List T} {fl : Fl} {j : Nat} (hs : src ρ = some (xs, some j, ρ1)) (hj : as.contains j = false) (hl : forL g db xs (ρ1.set j .un) = some (fl, ρ2)) : dFor as src g db ρ = some (fl, restE ρ1 ρ2 [j]) := by
  simp [dFor, hs, hideO, hl]
  simpa using hj
theorem foldl_flat {α β : Type} (y : α → List β) : ∀ (as : List α) (b : List β), as.foldl (fun b a => b ++ y a) b = b ++ as.flatMap y
  | [], b => by simp
  | a :: as, b => by simp [foldl_flat y as, List.flatMap_cons]
theorem gAdd_rt (ρ : REnv) {k : Nat} {a b : List T} (hr : ρ[k]? = some (.own (.lst a))) (h : a.length + b.length ≤ line) : gAdd ρ (.ref k) (.t (.lst b)) = some (.own (.lst (a ++ b))) := by simp only [gAdd, gCat, L.lview, hr, h, if_true]
theorem okTs_all {α : Type} (y : α → T) : ∀ as : List α, (∀ a ∈ as, okT (y a) = true) → okTs (as.map y) = true
  | [], _ => rfl
  | a :: as, h => by simp only [List.map_cons, okTs, h a List.mem_cons_self, okTs_all y as fun b hb => h b (List.mem_cons_of_mem _ hb), Bool.and_self]
theorem deps_all {α : Type} (y : α → T) (m : Nat) : ∀ as : List α, (∀ a ∈ as, (y a).dep ≤ m) → T.deps (as.map y) ≤ m
  | [], _ => Nat.zero_le _
  | a :: as, h => Nat.max_le.mpr ⟨h a List.mem_cons_self, deps_all y m as fun b hb => h b (List.mem_cons_of_mem _ hb)⟩
theorem ok_lst {α : Type} {y : α → T} {as : List α} (h : ∀ a ∈ as, okT (y a) = true) (hz : as.length < 10000) : okT (.lst (as.map y)) = true := by
  simp only [okT, okTs_all y as h, Bool.true_and, decide_eq_true_eq, List.length_map]; exact hz
theorem ok_tup (l : List Int) (hz : l.length < 10000) : okT (tupT l) = true := by
  simp only [tupT, okT, Bool.and_eq_true, decide_eq_true_eq, List.length_map]; exact ⟨okTs_all T.int l fun a _ => rfl, hz⟩
theorem dep_tup (l : List Int) : (tupT l).dep = 1 := by
  show T.deps (ii l) + 1 = 1
  rw [show T.deps (ii l) = 0 from deps_ii l]
theorem ok_ii {l : List Int} (hz : l.length < 10000) : okT (.lst (ii l)) = true ∧ (T.lst (ii l)).dep < 5 :=
  ⟨ok_lst (fun a _ => rfl) hz, by show T.deps (ii l) + 1 < 5; rw [show T.deps (ii l) = 0 from deps_ii l]; decide⟩
theorem eqvAll_tups : ∀ ps : List (List Int), PyData.eqvAll (T.pys (ps.map tupT)) (T.pys (ps.map tupT)) = true
  | [] => rfl
  | p :: ps => by
    have h1 : PyData.eqv (tupT p).py (tupT p).py = true := (eqv_tup p p).trans (by simp)
    simp only [List.map_cons, T.pys, PyData.eqvAll, h1, eqvAll_tups ps, Bool.and_self]
theorem eqv_tups (ps : List (List Int)) : T.eqv (.lst (ps.map tupT)) (.lst (ps.map tupT)) = true := eqvAll_tups ps
theorem dNF {d : DenT} {ρ ρ' : REnv} (h : d ρ = some (true, ρ')) : dNot d ρ = some (false, ρ') := dNot_t h
theorem callF {i : Nat} {g : List T → List T → Option (L × List T)} {da : DenA} {ρ ρ1 : REnv} {fd fd' : List T} {x : T} {r : L} (ho : isOwnL ρ i = true) (ha : da ρ = some ([x], ρ1)) (h1 : ρ1[i]? = some (.own (.lst fd))) (e : g fd [x] = some (r, fd')) (hr : nor r = some r) :
    dCallF 2 i g da ρ = some (r, ρ1.set i (.own (.lst fd'))) := by
  simp only [dCallF, ho, ha, h1, e, hr, if_true, Option.bind_some, List.length_cons, List.length_nil, Nat.zero_add, Nat.reduceAdd, Option.map_some]
theorem filt_all {α : Type} (p : α → Bool) : ∀ as : List α, decide ((as.filter p).length = 0) = as.all fun a => !p a
  | [] => rfl
  | a :: as => by
    rw [List.filter_cons, List.all_cons, ← filt_all p as]
    cases p a <;> simp
theorem gNe_same {ρ : REnv} {l1 l2 : L} {x : List Int} (h1 : l1.view ρ = some (.lst (ii x))) (h2 : l2.view ρ = some (.lst (ii x))) : gB gNe ρ l1 l2 = some (.t (.bl false)) := by
  simp only [gB, gNe, gEq, h1, h2, eqOk_lst, eqv_lst, if_true, Option.map_some, decide_true, Bool.not_true]
theorem drwD {i : Nat} {da : DenA} {ρ ρ1 : REnv} {fd : List T} {m : Int} (ho : isOwnL ρ i = true) (ha : da ρ = some ([.int m], ρ1)) (h1 : ρ1[i]? = some (.own (.lst fd))) (hf : GF fd) (hm : 0 < m) (hm2 : m < 1073741824) :
    ∃ v fd', dCallF 2 i gDraw da ρ = some (.t (.int ((v : Nat) : Int)), ρ1.set i (.own (.lst fd'))) ∧ (v : Int) < m ∧ GF fd' := by
  obtain ⟨v, fd', h2, h3, h4, h5⟩ := draw_call ho ha h1 hf hm hm2
  refine ⟨v.toNat, fd', ?_, by omega, h5⟩
  rw [Int.toNat_of_nonneg h3]
  exact h2
end LW
/-! registers: plain mathematics (sums, Massey's lemma, the least register found number by number) -/
namespace BM
def sm : Nat → (Nat → Int) → Int
  | 0, _ => 0
  | n + 1, f => sm n f + f n
theorem sm_congr {n : Nat} {f g : Nat → Int} (h : ∀ i, i < n → f i = g i) : sm n f = sm n g := by
  induction n with
  | zero => rfl
  | succ n ih => rw [sm, sm, ih fun i hi => h i (by omega), h n (by omega)]
theorem sm_dvd {p : Int} {n : Nat} {f g : Nat → Int} (h : ∀ i, i < n → p ∣ f i - g i) : p ∣ sm n f - sm n g := by
  induction n with
  | zero => exact ⟨0, by simp [sm]⟩
  | succ n ih =>
    have h1 := ih fun i hi => h i (by omega)
    have h2 := h n (by omega)
    have := Int.dvd_add h1 h2
    rw [show sm (n + 1) f - sm (n + 1) g = (sm n f - sm n g) + (f n - g n) from by simp only [sm]; omega]
    exact this
theorem sm_zero {n : Nat} {f : Nat → Int} (h : ∀ i, i < n → f i = 0) : sm n f = 0 := by
  induction n with
  | zero => rfl
  | succ n ih => rw [sm, ih fun i hi => h i (by omega), h n (by omega)]; rfl
theorem sm_add (n : Nat) (f g : Nat → Int) : sm n (fun i => f i + g i) = sm n f + sm n g := by
  induction n with
  | zero => rfl
  | succ n ih => simp only [sm]; rw [ih]; omega
theorem sm_mul (n : Nat) (a : Int) (f : Nat → Int) : sm n (fun i => a * f i) = a * sm n f := by
  induction n with
  | zero => simp [sm]
  | succ n ih => simp only [sm]; rw [ih, Int.mul_add]
theorem sm_swap (n m : Nat) (f : Nat → Nat → Int) : sm n (fun i => sm m (f i)) = sm m (fun j => sm n fun i => f i j) := by
  induction n with
  | zero => simp only [sm]; exact (sm_zero fun i _ => rfl).symm
  | succ n ih => simp only [sm]; rw [ih, ← sm_add]
theorem sm_split (n m : Nat) (f : Nat → Int) : sm (n + m) f = sm n f + sm m fun i => f (n + i) := by
  induction m with
  | zero => simp [sm]
  | succ m ih => rw [← Nat.add_assoc]; simp only [sm]; rw [ih]; omega
theorem sm_le {n m : Nat} {f : Nat → Int} (h : n ≤ m) (hz : ∀ i, n ≤ i → i < m → f i = 0) : sm m f = sm n f := by
  obtain ⟨k, rfl⟩ : ∃ k, m = n + k := ⟨m - n, by omega⟩
  rw [sm_split, sm_zero (n := k) fun i hi => hz (n + i) (by omega) (by omega)]
  omega
theorem sm_sum (n : Nat) (f : Nat → Int) : ((List.range n).map f).sum = sm n f := by
  induction n with
  | zero => rfl
  | succ n ih => rw [List.range_succ, List.map_append, List.sum_append, ih]; simp [sm]
/-- what the taps make ahead of place m -/
def dot (c r : Nat → Int) (L m : Nat) : Int := sm L fun i => c i * r (m - 1 - i)
/-- a row's first n numbers are the register's -/
def Fol (p : Int) (r c : Nat → Int) (L n : Nat) : Prop := ∀ m, L ≤ m → m < n → p ∣ dot c r L m - r m
theorem Fol.mono {p : Int} {r c : Nat → Int} {L n n' : Nat} (h : Fol p r c L n) (hn : n' ≤ n) : Fol p r c L n' := fun m h1 h2 => h m h1 (by omega)
theorem dvd_mul_sub {p a x y : Int} (h : p ∣ x - y) : p ∣ a * x - a * y := by
  rw [← Int.mul_sub]
  exact Int.dvd_mul_of_dvd_right h
theorem massey {p : Int} {r c c' : Nat → Int} {L L' n : Nat} (h : Fol p r c L n) (hL : L ≤ n) (h' : Fol p r c' L' (n + 1)) (hn : ¬ p ∣ dot c r L n - r n) : n + 1 ≤ L + L' := by
  refine Decidable.byContradiction fun hlt => hn ?_
  have a1 : p ∣ dot c' r L' n - r n := h' n (by omega) (by omega)
  have a2 : p ∣ sm L (fun i => c i * dot c' r L' (n - 1 - i)) - dot c r L n := sm_dvd fun i hi => dvd_mul_sub (h' (n - 1 - i) (by omega) (by omega))
  have a3 : p ∣ sm L' (fun j => c' j * dot c r L (n - 1 - j)) - dot c' r L' n := sm_dvd fun i hi => dvd_mul_sub (h (n - 1 - i) (by omega) (by omega))
  have e : sm L (fun i => c i * dot c' r L' (n - 1 - i)) = sm L' (fun j => c' j * dot c r L (n - 1 - j)) := by
    simp only [dot]
    rw [sm_congr (g := fun i => sm L' fun j => c i * (c' j * r (n - 1 - i - 1 - j))) fun i _ => (sm_mul _ _ _).symm, sm_swap]
    refine sm_congr fun j hj => ?_
    rw [← sm_mul]
    refine sm_congr fun i hi => ?_
    rw [show n - 1 - i - 1 - j = n - 1 - j - 1 - i by omega]
    rw [← Int.mul_assoc, Int.mul_comm (c i), Int.mul_assoc]
  rw [e] at a2
  have := Int.dvd_add (Int.dvd_sub a3 a2) a1
  rw [show sm L' (fun j => c' j * dot c r L (n - 1 - j)) - dot c' r L' n - (sm L' (fun j => c' j * dot c r L (n - 1 - j)) - dot c r L n) + (dot c' r L' n - r n) = dot c r L n - r n by omega] at this
  exact this
/-- one number more: the taps mended by the ones before -/
theorem mend {p : Int} {r c b : Nat → Int} {L M a n : Nat} {off k : Int} (hc : Fol p r c L n) (hb : Fol p r b M a) (hL : L + M = a + 1) (ha : a < n) (hLn : L ≤ n) (hM : M ≤ a)
    (hk : p ∣ k * (r a - dot b r M a) - (r n - dot c r L n)) (d : Nat → Int)
    (hd : ∀ i, p ∣ d i - ((if i < L then c i else 0) + (if i < n - a - 1 then 0 else if i = n - a - 1 then k else if i < n - a + M then - k * b (i - (n - a)) else 0))) :
    Fol p r d (max L (n + 1 - L)) (n + 1) := by
  intro m h1 h2
  let W := max L (n + 1 - L)
  have hW : n - a + M ≤ W := by simp only [W]; omega
  let e : Nat → Int := fun i => if i < n - a - 1 then 0 else if i = n - a - 1 then k else if i < n - a + M then - k * b (i - (n - a)) else 0
  have s1 : p ∣ dot d r W m - sm W fun i => ((if i < L then c i else 0) + e i) * r (m - 1 - i) := by
    refine sm_dvd fun i hi => ?_
    have := hd i
    have e0 := Int.dvd_trans this (Int.dvd_mul_right _ (r (m - 1 - i)))
    rw [Int.sub_mul] at e0
    exact e0
  have s2 : sm W (fun i => ((if i < L then c i else 0) + e i) * r (m - 1 - i)) = dot c r L m + sm W fun i => e i * r (m - 1 - i) := by
    rw [sm_congr (g := fun i => (if i < L then c i else 0) * r (m - 1 - i) + e i * r (m - 1 - i)) fun i _ => Int.add_mul _ _ _, sm_add]
    congr 1
    rw [sm_le (n := L) (by omega) fun i hi _ => by rw [if_neg (by omega)]; simp]
    exact sm_congr fun i hi => by rw [if_pos hi]
  have s3 : sm W (fun i => e i * r (m - 1 - i)) = k * (r (m - (n - a)) - dot b r M (m - (n - a))) := by
    rw [sm_le (n := n - a + M) hW fun i hi _ => by simp only [e]; rw [if_neg (by omega), if_neg (by omega), if_neg (by omega)]; simp]
    rw [sm_split, show n - a = (n - a - 1) + 1 by omega]
    simp only [sm]
    rw [sm_zero (n := n - a - 1) fun i hi => by simp only [e]; rw [if_pos (by omega)]; simp]
    have e1 : e (n - a - 1) = k := by show (if n - a - 1 < n - a - 1 then 0 else if n - a - 1 = n - a - 1 then k else _) = k; rw [if_neg (by omega), if_pos rfl]
    rw [e1, Int.mul_sub]
    have e2 : sm M (fun i => e (n - a - 1 + 1 + i) * r (m - 1 - (n - a - 1 + 1 + i))) = - k * dot b r M (m - (n - a - 1 + 1)) := by
      rw [dot, ← sm_mul]
      refine sm_congr fun i hi => ?_
      have : e (n - a - 1 + 1 + i) = - k * b i := by
        simp only [e]
        rw [if_neg (by omega), if_neg (by omega), if_pos (by omega), show n - a - 1 + 1 + i - (n - a) = i by omega]
      rw [this, show m - 1 - (n - a - 1 + 1 + i) = m - (n - a - 1 + 1) - 1 - i by omega, Int.mul_assoc]
    rw [e2, show m - 1 - (n - a - 1) = m - (n - a - 1 + 1) by omega, Int.neg_mul]
    omega
  rw [s2, s3] at s1
  by_cases hm : m = n
  · subst hm
    have := Int.dvd_add s1 hk
    rw [show m - (m - a) = a by omega] at this
    rw [show dot d r (max L (m + 1 - L)) m - r m = dot d r W m - (dot c r L m + k * (r a - dot b r M a)) + (k * (r a - dot b r M a) - (r m - dot c r L m)) by simp only [W]; omega]
    exact this
  · have t1 := hc m (by omega) (by omega)
    have t2 : p ∣ k * (r (m - (n - a)) - dot b r M (m - (n - a))) := by
      refine Int.dvd_mul_of_dvd_right ?_
      have := hb (m - (n - a)) (by omega) (by omega)
      rw [← Int.dvd_neg]
      rw [show -(r (m - (n - a)) - dot b r M (m - (n - a))) = dot b r M (m - (n - a)) - r (m - (n - a)) by omega]
      exact this
    have := Int.dvd_add (Int.dvd_add s1 t1) t2
    rw [show dot d r W m - (dot c r L m + k * (r (m - (n - a)) - dot b r M (m - (n - a)))) + (dot c r L m - r m) + k * (r (m - (n - a)) - dot b r M (m - (n - a))) = dot d r W m - r m by omega] at this
    exact this
end BM
/-! leaving out unknowns one after the other, modulo a prime below 8 -/
namespace BM
def isP (p : Nat) : Prop := p = 2 ∨ p = 3 ∨ p = 5 ∨ p = 7
def inv (p : Nat) (a : Int) : Int := (((List.range p).map Int.ofNat).filter fun x => x * a % (p : Int) == 1).headD 0
theorem isP.pos {p : Nat} (h : isP p) : 2 ≤ p ∧ p ≤ 7 := by rcases h with rfl | rfl | rfl | rfl <;> decide
theorem inv_all : ∀ p ∈ [2, 3, 5, 7], ∀ a ∈ List.range 7, 0 < a → a < p → (inv p (a : Nat) * (a : Nat)) % ((p : Nat) : Int) = 1 ∧ 0 ≤ inv p (a : Nat) ∧ inv p (a : Nat) < p := by decide +kernel
theorem inv_ok {p : Nat} (h : isP p) {a : Int} (h0 : 0 < a) (h1 : a < p) : (inv p a * a) % (p : Int) = 1 ∧ 0 ≤ inv p a ∧ inv p a < p := by
  obtain ⟨n, rfl⟩ : ∃ n : Nat, a = n := ⟨a.toNat, by omega⟩
  have := h.pos
  exact inv_all p (by rcases h with rfl | rfl | rfl | rfl <;> decide) n (by simp; omega) (by omega) (by omega)
theorem dr {p x : Int} (c : Int) (h : p ∣ x) : p ∣ c * x := Int.dvd_trans h (Int.dvd_mul_left _ _)
abbrev g (l : List Int) (c : Nat) : Int := l.getD c 0
section
variable {p : Int} {size : Nat}
def ev (size : Nat) (l : List Int) (x : Nat → Int) : Int := sm size (fun c => g l c * x c) - g l size
theorem lin2 {l a b : List Int} {x : Nat → Int} (t : Int) (h : ∀ c, c ≤ size → p ∣ g l c - (g a c + t * g b c)) : p ∣ ev size l x - (ev size a x + t * ev size b x) := by
  have h1 : p ∣ sm size (fun c => g l c * x c) - sm size (fun c => (g a c + t * g b c) * x c) := sm_dvd fun i hi => by
    have := Int.dvd_trans (h i (by omega)) (Int.dvd_mul_right _ (x i))
    rwa [Int.sub_mul] at this
  have h2 : sm size (fun c => (g a c + t * g b c) * x c) = sm size (fun c => g a c * x c) + t * sm size (fun c => g b c * x c) := by
    rw [← sm_mul, ← sm_add]
    exact sm_congr fun i _ => by rw [Int.add_mul, Int.mul_assoc]
  rw [h2] at h1
  have := Int.dvd_sub h1 (h size (Nat.le_refl _))
  unfold ev
  rw [show sm size (fun c => g l c * x c) - g l size - (sm size (fun c => g a c * x c) - g a size + t * (sm size (fun c => g b c * x c) - g b size)) = sm size (fun c => g l c * x c) - (sm size (fun c => g a c * x c) + t * sm size (fun c => g b c * x c)) - (g l size - (g a size + t * g b size)) by rw [Int.mul_sub]; omega]
  exact this
def upd (x : Nat → Int) (j : Nat) (t : Int) : Nat → Int := fun c => if c = j then x c + t else x c
theorem ev_upd {l : List Int} {x : Nat → Int} {j : Nat} (hj : j < size) (t : Int) : ev size l (upd x j t) = ev size l x + g l j * t := by
  have : sm size (fun c => g l c * upd x j t c) = sm size (fun c => g l c * x c) + g l j * t := by
    rw [sm_congr (g := fun c => g l c * x c + (if c = j then g l j * t else 0)) fun i _ => by
      unfold upd
      split
      · rename_i h; subst h; rw [Int.mul_add]
      · simp, sm_add]
    congr 1
    rw [sm_le (n := j + 1) (by omega) fun i h1 _ => if_neg (by omega)]
    simp only [sm, if_true]
    rw [sm_zero fun i hi => if_neg (by omega)]
    omega
  unfold ev
  rw [this]
  omega
def Sol (p : Int) (size : Nat) (R : List (List Int)) : Prop := ∃ x : Nat → Int, ∀ l ∈ R, p ∣ ev size l x
def scl (p : Int) (k : Int) (l : List Int) : List Int := l.map fun x => x * k % p
def red (p : Int) (size j : Nat) (own l : List Int) : List Int := if g l j = 0 then l else (List.range (size + 1)).map fun c => (g l c - g l j * g own c) % p
theorem emod_dvd (a p : Int) : p ∣ a % p - a := ⟨-(a / p), by have := Int.emod_add_mul_ediv a p; rw [Int.mul_neg]; omega⟩
theorem g_scl {k : Int} {l : List Int} (c : Nat) : g (scl p k l) c = g l c * k % p := by
  unfold g scl
  rw [List.getD_eq_getElem?_getD, List.getD_eq_getElem?_getD, List.getElem?_map]
  cases l[c]? <;> simp
theorem g_red {j : Nat} {own l : List Int} {c : Nat} (hc : c ≤ size) : p ∣ g (red p size j own l) c - (g l c + (- g l j) * g own c) := by
  unfold red
  split
  · rename_i h
    rw [h]
    exact ⟨0, by simp⟩
  · have : g ((List.range (size + 1)).map fun c => (g l c - g l j * g own c) % p) c = (g l c - g l j * g own c) % p := by
      unfold g
      rw [List.getD_eq_getElem?_getD, List.getElem?_map, List.getElem?_range (by omega)]
      rfl
    rw [this]
    have := emod_dvd (g l c - g l j * g own c) p
    rw [show g l c + -g l j * g own c = g l c - g l j * g own c by rw [Int.neg_mul]; omega]
    exact this
/-- the pivot's step: solvable ahead exactly if behind -/
theorem pivot {R S : List (List Int)} {own : List Int} {j : Nat} {k : Int} (hj : j < size) (hm : ∀ l, l ∈ R ↔ l = own ∨ l ∈ S) (hk : (k * g own j) % p = 1) (hp : 2 ≤ p) :
    Sol p size R ↔ Sol p size (S.map (red p size j (scl p k own))) := by
  have hk1 : p ∣ g own j * k - 1 := by
    have := emod_dvd (k * g own j) p
    rw [hk, ← Int.dvd_neg] at this
    rw [show g own j * k - 1 = -(1 - k * g own j) by rw [Int.mul_comm]; omega]
    exact this
  have o1 : ∀ x, p ∣ ev size (scl p k own) x - k * ev size own x := fun x => by
    have := lin2 (p := p) (size := size) (l := scl p k own) (a := []) (b := own) (x := x) k fun c hc => by
      rw [g_scl]
      have := emod_dvd (g own c * k) p
      rw [show g ([] : List Int) c + k * g own c = g own c * k by rw [Int.mul_comm k]; simp [g]]
      exact this
    have e : ev size [] x = 0 := by
      unfold ev
      rw [sm_zero fun i _ => by simp [g]]
      simp [g]
    rw [e] at this
    rw [show ev size (scl p k own) x - k * ev size own x = ev size (scl p k own) x - (0 + k * ev size own x) by omega]
    exact this
  have r1 : ∀ l x, p ∣ ev size (red p size j (scl p k own) l) x - (ev size l x + (- g l j) * ev size (scl p k own) x) := fun l x => lin2 _ fun c hc => g_red hc
  constructor
  · rintro ⟨x, hx⟩
    refine ⟨x, fun l' hl' => ?_⟩
    obtain ⟨l, hl, rfl⟩ := List.mem_map.mp hl'
    have a1 := hx l ((hm l).mpr (.inr hl))
    have a2 := hx own ((hm own).mpr (.inl rfl))
    have a3 : p ∣ ev size (scl p k own) x := by
      have := Int.dvd_add (o1 x) (dr (k) a2)
      rwa [show ev size (scl p k own) x - k * ev size own x + k * ev size own x = ev size (scl p k own) x by omega] at this
    have := Int.dvd_add (r1 l x) (Int.dvd_add a1 (dr (- g l j) a3))
    rwa [show ev size (red p size j (scl p k own) l) x - (ev size l x + -g l j * ev size (scl p k own) x) + (ev size l x + -g l j * ev size (scl p k own) x) = ev size (red p size j (scl p k own) l) x by omega] at this
  · rintro ⟨x, hx⟩
    let t := - ev size (scl p k own) x
    have ojj : p ∣ g (scl p k own) j - 1 := by
      rw [g_scl]
      have := Int.dvd_add (emod_dvd (g own j * k) p) hk1
      rwa [show g own j * k % p - g own j * k + (g own j * k - 1) = g own j * k % p - 1 by omega] at this
    have a3 : p ∣ ev size (scl p k own) (upd x j t) := by
      rw [ev_upd hj]
      have := Int.dvd_trans ojj (Int.dvd_mul_right _ t)
      rw [Int.sub_mul, Int.one_mul] at this
      rwa [show ev size (scl p k own) x + g (scl p k own) j * t = g (scl p k own) j * t - t by simp only [t]; omega]
    refine ⟨upd x j t, fun l hl => ?_⟩
    rcases (hm l).mp hl with rfl | hl
    · have b1 := dr (g l j) (o1 (upd x j t))
      have b2 := dr (g l j) a3
      have b3 := Int.dvd_trans hk1 (Int.dvd_mul_right _ (ev size l (upd x j t)))
      have := Int.dvd_sub (Int.dvd_sub b2 b1) b3
      rw [Int.mul_sub, Int.sub_mul, Int.one_mul, ← Int.mul_assoc] at this
      rwa [show g l j * ev size (scl p k l) (upd x j t) - (g l j * ev size (scl p k l) (upd x j t) - g l j * k * ev size l (upd x j t)) - (g l j * k * ev size l (upd x j t) - ev size l (upd x j t)) = ev size l (upd x j t) by omega] at this
    · have b0 := hx _ (List.mem_map_of_mem (f := red p size j (scl p k own)) hl)
      have rj : p ∣ g (red p size j (scl p k own) l) j := by
        have h1 := g_red (p := p) (size := size) (j := j) (own := scl p k own) (l := l) (c := j) (by omega)
        have h2 := dr (- g l j) ojj
        have := Int.dvd_add h1 h2
        rwa [show g (red p size j (scl p k own) l) j - (g l j + -g l j * g (scl p k own) j) + -g l j * (g (scl p k own) j - 1) = g (red p size j (scl p k own) l) j by rw [Int.mul_sub]; omega] at this
      have b1 : p ∣ ev size (red p size j (scl p k own) l) (upd x j t) := by
        rw [ev_upd hj]
        exact Int.dvd_add b0 (Int.dvd_trans rj (Int.dvd_mul_right _ t))
      have := Int.dvd_sub (Int.dvd_sub b1 (r1 l (upd x j t))) (dr (- g l j) a3)
      rwa [show ev size (red p size j (scl p k own) l) (upd x j t) - (ev size (red p size j (scl p k own) l) (upd x j t) - (ev size l (upd x j t) + -g l j * ev size (scl p k own) (upd x j t))) - -g l j * ev size (scl p k own) (upd x j t) = ev size l (upd x j t) by omega] at this
/-- lines that are numbers of the field, nothing ahead of a column -/
def Ln (p : Int) (size j : Nat) (l : List Int) : Prop := l.length = size + 1 ∧ (∀ x ∈ l, 0 ≤ x ∧ x < p) ∧ ∀ c, c < j → g l c = 0
theorem Ln.scl {j : Nat} {k : Int} {l : List Int} (hp : 0 < p) (h : Ln p size j l) : Ln p size j (scl p k l) := by
  refine ⟨by simp [BM.scl, h.1], fun x hx => ?_, fun c hc => by rw [g_scl, h.2.2 c hc]; simp⟩
  obtain ⟨y, _, rfl⟩ := List.mem_map.mp hx
  exact ⟨Int.emod_nonneg _ (by omega), Int.emod_lt_of_pos _ hp⟩
theorem Ln.red {j : Nat} {own l : List Int} (hp : 0 < p) (hj : j ≤ size) (h : Ln p size j l) (ho : Ln p size j own) (h1 : g own j = 1) : Ln p size (j + 1) (red p size j own l) := by
  unfold BM.red
  split
  · rename_i e
    refine ⟨h.1, h.2.1, fun c hc => ?_⟩
    by_cases hcj : c = j
    · subst hcj; exact e
    · exact h.2.2 c (by omega)
  · refine ⟨by simp, fun x hx => ?_, fun c hc => ?_⟩
    · obtain ⟨y, _, rfl⟩ := List.mem_map.mp hx
      exact ⟨Int.emod_nonneg _ (by omega), Int.emod_lt_of_pos _ hp⟩
    · have : g ((List.range (size + 1)).map fun c => (g l c - g l j * g own c) % p) c = (g l c - g l j * g own c) % p := by
        unfold g
        rw [List.getD_eq_getElem?_getD, List.getElem?_map, List.getElem?_range (by omega)]
        rfl
      rw [this]
      by_cases hcj : c = j
      · subst hcj; rw [h1]; simp
      · rw [h.2.2 c (by omega), ho.2.2 c (by omega)]; simp
end
/-! ### a column, all columns -/
def fstNZ (j : Nat) (R : List (List Int)) : Option Nat := R.findIdx? fun l => decide (g l j ≠ 0)
def col (p size j : Nat) (R : List (List Int)) : List (List Int) :=
  match fstNZ j R with
  | none => R
  | some f => ((R.set f (R.getD 0 [])).drop 1).map (red p size j (scl p (inv p (g (R.getD f []) j)) (R.getD f [])))
theorem mem_swap {R : List (List Int)} {f : Nat} (hf : f < R.length) (l : List Int) : l ∈ R ↔ l = R.getD f [] ∨ l ∈ (R.set f (R.getD 0 [])).drop 1 := by
  cases R with
  | nil => simp at hf
  | cons a R =>
    cases f with
    | zero => simp
    | succ f =>
      have hf' : f < R.length := by simpa using hf
      simp only [List.set_cons_succ, List.drop_succ_cons, List.drop_zero, List.getD_cons_succ, List.getD_cons_zero, List.mem_cons]
      rw [List.getD_eq_getElem?_getD, List.getElem?_eq_getElem hf', Option.getD_some]
      constructor
      · rintro (rfl | h)
        · exact .inr (List.mem_set hf' l)
        · obtain ⟨i, hi, e⟩ := List.getElem_of_mem h
          by_cases hif : i = f
          · subst hif; exact .inl e.symm
          · refine .inr (List.mem_iff_getElem.mpr ⟨i, by simpa using hi, ?_⟩)
            rw [List.getElem_set_ne (by omega)]
            exact e
      · rintro (rfl | h)
        · exact .inr (List.getElem_mem hf')
        · rcases List.mem_or_eq_of_mem_set h with h | h
          · exact .inr h
          · exact .inl h
theorem col_ok {p size j : Nat} {R : List (List Int)} (hp : isP p) (hj : j < size) (h : ∀ l ∈ R, Ln p size j l) : (∀ l ∈ col p size j R, Ln p size (j + 1) l) ∧ (Sol p size R ↔ Sol p size (col p size j R)) := by
  have pp := hp.pos
  unfold col
  cases e : fstNZ j R with
  | none =>
    refine ⟨fun l hl => ⟨(h l hl).1, (h l hl).2.1, fun c hc => ?_⟩, Iff.rfl⟩
    by_cases hcj : c = j
    · subst hcj
      have := (List.findIdx?_eq_none_iff.mp e) l hl
      simpa using this
    · exact (h l hl).2.2 c (by omega)
  | some f =>
    obtain ⟨hf, hnz, _⟩ := List.findIdx?_eq_some_iff_getElem.mp e
    have em : R.getD f [] = R[f] := by rw [List.getD_eq_getElem?_getD, List.getElem?_eq_getElem hf]; rfl
    have lo := h _ (List.getElem_mem hf)
    rw [← em] at lo hnz
    have hnz : g (R.getD f []) j ≠ 0 := by simpa using hnz
    have b : 0 ≤ g (R.getD f []) j ∧ g (R.getD f []) j < p := by
      refine lo.2.1 _ ?_
      unfold g
      rw [List.getD_eq_getElem?_getD (l := R.getD f []), List.getElem?_eq_getElem (by rw [lo.1]; omega), Option.getD_some]
      exact List.getElem_mem _
    have iv := inv_ok hp (a := g (R.getD f []) j) (by omega) b.2
    refine ⟨fun l' hl' => ?_, pivot hj (mem_swap hf) iv.1 (by omega)⟩
    obtain ⟨l, hl, rfl⟩ := List.mem_map.mp hl'
    refine Ln.red (by omega) (by omega) (h l ((mem_swap hf l).mpr (.inr hl))) (lo.scl (by omega)) ?_
    rw [g_scl, Int.mul_comm]
    exact iv.1
def cols (p size : Nat) : Nat → List (List Int) → List (List Int)
  | 0, R => R
  | n + 1, R => col p size n (cols p size n R)
theorem cols_ok {p size : Nat} {R : List (List Int)} (hp : isP p) (h : ∀ l ∈ R, Ln p size 0 l) : ∀ n, n ≤ size → (∀ l ∈ cols p size n R, Ln p size n l) ∧ (Sol p size R ↔ Sol p size (cols p size n R))
  | 0, _ => ⟨h, Iff.rfl⟩
  | n + 1, hn => by
    obtain ⟨h1, h2⟩ := cols_ok hp h n (by omega)
    obtain ⟨h3, h4⟩ := col_ok hp (by omega) h1
    exact ⟨h3, h2.trans h4⟩
def noSol (p size : Nat) (R : List (List Int)) : Bool := (cols p size size R).any fun l => decide (g l size ≠ 0)
theorem noSol_iff {p size : Nat} {R : List (List Int)} (hp : isP p) (h : ∀ l ∈ R, Ln p size 0 l) : noSol p size R = true ↔ ¬ Sol p size R := by
  obtain ⟨h1, h2⟩ := cols_ok hp h size (Nat.le_refl _)
  have pp := hp.pos
  rw [h2]
  have ev0 : ∀ l ∈ cols p size size R, ∀ x, ev size l x = - g l size := fun l hl x => by
    unfold ev
    rw [sm_zero fun i hi => by rw [(h1 l hl).2.2 i hi]; simp]
    omega
  unfold noSol
  rw [List.any_eq_true]
  constructor
  · rintro ⟨l, hl, hg⟩ ⟨x, hx⟩
    have := hx l hl
    rw [ev0 l hl x, Int.dvd_neg] at this
    have hg : g l size ≠ 0 := by simpa using hg
    have b : 0 ≤ g l size ∧ g l size < p := by
      refine (h1 l hl).2.1 _ ?_
      unfold g
      rw [List.getD_eq_getElem?_getD, List.getElem?_eq_getElem (by rw [(h1 l hl).1]; omega), Option.getD_some]
      exact List.getElem_mem _
    have := Int.le_of_dvd (by omega) this
    omega
  · intro hn
    refine Decidable.byContradiction fun hc => hn ⟨fun _ => 0, fun l hl => ?_⟩
    rw [ev0 l hl]
    have : g l size = 0 := by
      refine Decidable.byContradiction fun z => hc ⟨l, hl, by simpa using z⟩
    rw [this]
    exact ⟨0, by simp⟩
end BM
/-! registers: what the library's defs are worth, law by law the same -/
namespace LR
open PySem LW
open L2 (atI ixN)
def E_is_whole (value : L) : REnv := [value]
def t_is_whole_1 : DenS := (dRet (dAndV (den1 (gIsi "int") (gVar 0)) (dNotV (den1 (gIsi "bool") (gVar 0)))))
def d_is_whole : DenS := t_is_whole_1
def f_is_whole : List T → Option L := bodyP 1 1 d_is_whole
def E_is_between (value least most : L) : REnv := [value, least, most]
def t_is_between_1 : DenS := (dRet (dAndV (dCallP 1 f_is_whole (dCons (gVar 0) dNil)) (denC gLe gLe (gVar 1) (gVar 0) (gVar 2))))
def d_is_between : DenS := t_is_between_1
def f_is_between : List T → Option L := bodyP 3 3 d_is_between
def E_are_between (value least most number : L) : REnv := [value, least, most, number]
def c_are_between_1 : Den := (compD (iSeq (gVar 0)) [3] (gNameT 3) dYes (dCallP 3 f_is_between (dCons (gVar 3) (dCons (gVar 1) (dCons (gVar 2) dNil)))))
def t_are_between_1 : DenS := (dRet (dAndV (den1 (gIsi "list") (gVar 0)) (den1 gAll c_are_between_1)))
def d_are_between : DenS := t_are_between_1
def f_are_between : List T → Option L := bodyP 3 4 d_are_between
def E_inverse_number (p k own : L) : REnv := [p, k, own]
def c_inverse_number_1 : Den := (compD (iRange2 (dCons (gC (.int 1)) (dCons (gVar 0) dNil))) [2] (gNameT 2) (dBl (den2 (gB gEq) (den2 gMod (den2 gMul (gVar 2) (gVar 1)) (gVar 0)) (gC (.int 1)))) (gVar 2))
def t_inverse_number_1 : DenS := (dRet (den2 gIx c_inverse_number_1 (gC (.int 0))))
def d_inverse_number : DenS := t_inverse_number_1
def f_inverse_number : List T → Option L := bodyP 2 3 d_inverse_number
def E_next_number (p taps row j k : L) : REnv := [p, taps, row, j, k]
def c_next_number_1 : Den := (compD (iEnumT (gVar 1)) [3, 4] (gTupT 2 (gConsT (gNameT 3) (gConsT (gNameT 4) gNilT))) dYes (den2 gMul (gVar 4) (den2 gIx (gVar 2) (den2 gSub (den2 gSub (den1 gLen (gVar 2)) (gC (.int 1))) (gVar 3)))))
def t_next_number_1 : DenS := (dRet (den2 gMod (den1 gSum c_next_number_1) (gVar 0)))
def d_next_number : DenS := t_next_number_1
def f_next_number : List T → Option L := bodyP 3 5 d_next_number
def E_register_row (p taps begun many row : L) : REnv := [p, taps, begun, many, row]
def t_register_row_1 : DenS := (dSet 4 (den1 gList (gVar 2)))
def b_register_row_1 : DenT := (dBl (den2 (gB gLt) (den1 gLen (gVar 4)) (gVar 3)))
def t_register_row_2 : DenS := (dDrop (dMeth 4 fAppend (dCons (dBor (dCallP 3 f_next_number (dCons (gVar 0) (dCons (gVar 1) (dCons (gVar 4) dNil))))) dNil)))
def l_register_row_1 : DenS := t_register_row_2
def t_register_row_3 : DenS := (whileL b_register_row_1 l_register_row_1 1000)
def t_register_row_4 : DenS := (dRet (dSl (gVar 4) dNone (dSome (gVar 3))))
def d_register_row : DenS := (dSeq t_register_row_1
  (dSeq t_register_row_3
  t_register_row_4))
def f_register_row : List T → Option L := bodyP 4 5 d_register_row
def E_is_row_of (p taps row at_ : L) : REnv := [p, taps, row, at_]
def c_is_row_of_1 : Den := (compD (iRange2 (dCons (den1 gLen (gVar 1)) (dCons (den1 gLen (gVar 2)) dNil))) [3] (gNameT 3) dYes (den2 (gB gEq) (dCallP 3 f_next_number (dCons (gVar 0) (dCons (gVar 1) (dCons (dSl (gVar 2) dNone (dSome (gVar 3))) dNil)))) (den2 gIx (gVar 2) (gVar 3))))
def t_is_row_of_1 : DenS := (dRet (den1 gAll c_is_row_of_1))
def d_is_row_of : DenS := t_is_row_of_1
def f_is_row_of : List T → Option L := bodyP 3 4 d_is_row_of
def E_Finder_made (self off p taps at_ other_off ticks k change own many one other more_ : L) : REnv := [self, off, p, taps, at_, other_off, ticks, k, change, own, many, one, other, more_]
def t_Finder_made_1 : DenS := (dSet 2 (den1 (gAttr "p") (gVar 0)))
def t_Finder_made_2 : DenS := (dAsg (den1 (gAttr "before") (gVar 0)) (gTupT 3 (gConsT (gNameT 3) (gConsT (gNameT 4) (gConsT (gNameT 5) gNilT)))))
def t_Finder_made_3 : DenS := (dSet 6 (den2 gSub (den1 gLen (den1 (gAttr "row") (gVar 0))) (gVar 4)))
def t_Finder_made_4 : DenS := (dSet 7 (den2 gMod (den2 gMul (gVar 1) (dCallP 2 f_inverse_number (dCons (gVar 2) (dCons (gVar 5) dNil)))) (gVar 2)))
def c_Finder_made_1 : Den := (compD (iSeq (gVar 3)) [9] (gNameT 9) dYes (den2 gMod (den2 gMul (den2 gSub (gVar 2) (gVar 7)) (gVar 9)) (gVar 2)))
def t_Finder_made_5 : DenS := (dSet 8 (den2 gAdd (den2 gAdd (den2 gMul (dLst (dCons (gC (.int 0)) dNil)) (den2 gSub (gVar 6) (gC (.int 1)))) (dLst (dCons (dFrz 7) dNil))) c_Finder_made_1))
def t_Finder_made_6 : DenS := (dSet 10 (den2 gMax2 (den1 gLen (den1 (gAttr "taps") (gVar 0))) (den2 gSub (den2 gAdd (den1 gLen (den1 (gAttr "row") (gVar 0))) (gC (.int 1))) (den1 gLen (den1 (gAttr "taps") (gVar 0))))))
def t_Finder_made_7 : DenS := (dSet 11 (den2 gAdd (den1 (gAttr "taps") (gVar 0)) (den2 gMul (dLst (dCons (gC (.int 0)) dNil)) (den2 gSub (gVar 10) (den1 gLen (den1 (gAttr "taps") (gVar 0)))))))
def t_Finder_made_8 : DenS := (dSet 12 (den2 gAdd (gVar 8) (den2 gMul (dLst (dCons (gC (.int 0)) dNil)) (den2 gSub (gVar 10) (den1 gLen (gVar 8))))))
def c_Finder_made_2 : Den := (compD (iZipT (dFrz 11) (dFrz 12)) [9, 13] (gTupT 2 (gConsT (gNameT 9) (gConsT (gNameT 13) gNilT))) dYes (den2 gMod (den2 gAdd (gVar 9) (gVar 13)) (gVar 2)))
def t_Finder_made_9 : DenS := (dRet c_Finder_made_2)
def d_Finder_made : DenS := (dSeq t_Finder_made_1
  (dSeq t_Finder_made_2
  (dSeq t_Finder_made_3
  (dSeq t_Finder_made_4
  (dSeq t_Finder_made_5
  (dSeq t_Finder_made_6
  (dSeq t_Finder_made_7
  (dSeq t_Finder_made_8
  t_Finder_made_9))))))))
def f_Finder_made : List T → Option L := bodyP 2 14 d_Finder_made
def E_Finder_first_taps (self at_ : L) : REnv := [self, at_]
def t_Finder_first_taps_1 : DenS := (dRet (den2 gMul (dLst (dCons (gC (.int 0)) dNil)) (den2 gAdd (gVar 1) (gC (.int 1)))))
def d_Finder_first_taps : DenS := t_Finder_first_taps_1
def f_Finder_first_taps : List T → Option L := bodyP 2 2 d_Finder_first_taps
def isI (r : Option L) (i : Int) : Bool := match r with
  | some (.t (.int j)) => decide (j = i)
  | _ => false
theorem isI_ok {r : Option L} {i : Int} (h : isI r i = true) : r = some (.t (.int i)) := by
  unfold isI at h
  split at h
  · rw [of_decide_eq_true h]
  · cases h
theorem inv_k : ∀ p ∈ [2, 3, 5, 7], ∀ a ∈ List.range 7, 0 < a → a < p → isI (f_inverse_number [.int (p : Nat), .int (a : Nat)]) (BM.inv p (a : Nat)) = true := by decide +kernel
theorem ev_inverse {p : Nat} (h : BM.isP p) {a : Int} (h0 : 0 < a) (h1 : a < p) : f_inverse_number [.int (p : Nat), .int a] = some (.t (.int (BM.inv p a))) := by
  obtain ⟨n, rfl⟩ : ∃ n : Nat, a = n := ⟨a.toNat, by omega⟩
  have := h.pos
  exact isI_ok (inv_k p (by rcases h with rfl | rfl | rfl | rfl <;> decide) n (by simp; omega) (by omega) (by omega))
/-- small numbers -/
def Sm (ns : List Int) : Prop := ∀ x ∈ ns, 0 ≤ x ∧ x < 1000
theorem Sm.get {ns : List Int} (h : Sm ns) (i : Nat) : 0 ≤ ns.getD i 0 ∧ ns.getD i 0 < 1000 := by
  by_cases hi : i < ns.length
  · rw [List.getD_eq_getElem?_getD, List.getElem?_eq_getElem hi]
    exact h _ (List.getElem_mem hi)
  · rw [List.getD_eq_getElem?_getD, List.getElem?_eq_none (by omega)]
    exact ⟨by decide, by decide⟩
def dotR (taps row : List Int) : Int := BM.dot (BM.g taps) (BM.g row) taps.length row.length
theorem enumT_ii (ns : List Int) : enumT (ii ns) = (List.range ns.length).map fun i => T.tup [.int (i : Nat), .int (ns.getD i 0)] := by
  refine List.ext_getElem? fun i => ?_
  simp only [enumT, ii, List.getElem?_map, List.getElem?_zipIdx]
  by_cases h : i < ns.length
  · simp [h]
  · simp [h]
theorem ev_next {p : Int} {taps row : List Int} (hp : 0 < p) (hl : taps.length ≤ row.length) (ht : Sm taps) (hz : taps.length ≤ 1000) :
    f_next_number [.int p, .lst (ii taps), .lst (ii row)] = some (.t (.int (dotR taps row % p))) := by
  have hc : c_next_number_1 [.t (.int p), .t (.lst (ii taps)), .t (.lst (ii row)), .un, .un] = some (.own (.lst ((List.range taps.length).map fun i => .int (taps.getD i 0 * row.getD (row.length - 1 - i) 0))), [.t (.int p), .t (.lst (ii taps)), .t (.lst (ii row)), .un, .un]) := by
    unfold c_next_number_1
    refine compD_eq (xs := (List.range taps.length).map fun i => T.tup [.int (i : Nat), .int (taps.getD i 0)]) (ho := none) (ρ1 := [.t (.int p), .t (.lst (ii taps)), .t (.lst (ii row)), .un, .un]) ?_ (compL_m _ _ _ fun i hi => ?_) ?_
    · rw [← enumT_ii]
      simp only [den1, den2, gVar, gC, gAdd, gSub, gMod, gNeg, gIx, gLen, gAbs, gInt, gList, gTuple, gCat, L.lview, L.view, L.tree, L.hid, L.asBl, L.asInt, L.truth, dBl, dTru, gB, gEq, gNe, gLt_e, gLe_e, gGt_e, gGe_e, dCons, dNil, dTup, dLst, dSet, stoE, dRet, dDrop, dNot, dAnd, dOr, dYes, gNameT, gTupT, gConsT, gNilT, iEnumT, iSeq, iZipT, hideO, wipeE, restE, dMeth, isOwnL, fAppend, dSl, dSome, dNone, gSl, dCallP, allT, nor, finP, Option.bind_some, Option.map_some, List.getElem?_cons_zero, List.getElem?_cons_succ, List.set_cons_zero, List.set_cons_succ, List.length_cons, List.length_nil, List.map_cons, List.map_nil, List.replicate, List.cons_append, List.nil_append, List.append_nil, Option.toList_none, Option.toList_some]
    · have hi : i < taps.length := by simpa using hi
      have hx := ht.get i
      have h1 : atI (ii row) ((row.length : Int) - 1 - i) = some (.int (row.getD (row.length - 1 - i) 0)) := by
        have := atI_ints (ns := row) (i := (row.length : Int) - 1 - i) (by omega) (by omega)
        rw [this, show ((row.length : Int) - 1 - i).toNat = row.length - 1 - i by omega]
      have h2 : mulOk (taps.getD i 0) (row.getD (row.length - 1 - i) 0) = true := mulOk_small (by omega) (by omega)
      refine ⟨[.t (.int p), .t (.lst (ii taps)), .t (.lst (ii row)), .t (.int i), .t (.int (taps.getD i 0))], ?_, .t (.int (taps.getD i 0 * row.getD (row.length - 1 - i) 0)), [.t (.int p), .t (.lst (ii taps)), .t (.lst (ii row)), .t (.int i), .t (.int (taps.getD i 0))], ?_, rfl, rfl⟩
      · simp [den1, den2, gVar, gC, gAdd, gSub, gMod, gNeg, gIx, gLen, gAbs, gInt, gList, gTuple, gCat, L.lview, L.view, L.tree, L.hid, L.asBl, L.asInt, L.truth, dBl, dTru, gB, gEq, gNe, gLt_e, gLe_e, gGt_e, gGe_e, dCons, dNil, dTup, dLst, dSet, stoE, dRet, dDrop, dNot, dAnd, dOr, dYes, gNameT, gTupT, gConsT, gNilT, iEnumT, iSeq, iZipT, hideO, wipeE, restE, dMeth, isOwnL, fAppend, dSl, dSome, dNone, gSl, dCallP, allT, nor, finP, Option.bind_some, Option.map_some, List.getElem?_cons_zero, List.getElem?_cons_succ, List.set_cons_zero, List.set_cons_succ, List.length_cons, List.length_nil, List.map_cons, List.map_nil, List.replicate, List.cons_append, List.nil_append, List.append_nil, Option.toList_none, Option.toList_some]
      · have e3 : (ii row).length = row.length := by simp [ii]
        simp only [den1, den2, gVar, gC, gAdd, gSub, gMod, gNeg, gIx, gLen, gAbs, gInt, gList, gTuple, gCat, L.lview, L.view, L.tree, L.hid, L.asBl, L.asInt, L.truth, dBl, dTru, gB, gEq, gNe, gLt_e, gLe_e, gGt_e, gGe_e, dCons, dNil, dTup, dLst, dSet, stoE, dRet, dDrop, dNot, dAnd, dOr, dYes, gNameT, gTupT, gConsT, gNilT, iEnumT, iSeq, iZipT, hideO, wipeE, restE, dMeth, isOwnL, fAppend, dSl, dSome, dNone, gSl, dCallP, allT, nor, finP, Option.bind_some, Option.map_some, List.getElem?_cons_zero, List.getElem?_cons_succ, List.set_cons_zero, List.set_cons_succ, List.length_cons, List.length_nil, List.map_cons, List.map_nil, List.replicate, List.cons_append, List.nil_append, List.append_nil, Option.toList_none, Option.toList_some, e3, h1, gMul_e _ h2]
    · simp [line]; omega
  have hs : asInts ((List.range taps.length).map fun i => T.int (taps.getD i 0 * row.getD (row.length - 1 - i) 0)) = some ((List.range taps.length).map fun i => taps.getD i 0 * row.getD (row.length - 1 - i) 0) := asInts_f _ _
  have e : ((List.range taps.length).map fun i => taps.getD i 0 * row.getD (row.length - 1 - i) 0).sum = dotR taps row := BM.sm_sum _ _
  simp only [f_next_number, bodyP, d_next_number, t_next_number_1, den1, den2, gVar, gC, gAdd, gSub, gMod, gNeg, gIx, gLen, gAbs, gInt, gList, gTuple, gCat, L.lview, L.view, L.tree, L.hid, L.asBl, L.asInt, L.truth, dBl, dTru, gB, gEq, gNe, gLt_e, gLe_e, gGt_e, gGe_e, dCons, dNil, dTup, dLst, dSet, stoE, dRet, dDrop, dNot, dAnd, dOr, dYes, gNameT, gTupT, gConsT, gNilT, iEnumT, iSeq, iZipT, hideO, wipeE, restE, dMeth, isOwnL, fAppend, dSl, dSome, dNone, gSl, dCallP, allT, nor, finP, Option.bind_some, Option.map_some, List.getElem?_cons_zero, List.getElem?_cons_succ, List.set_cons_zero, List.set_cons_succ, List.length_cons, List.length_nil, List.map_cons, List.map_nil, List.replicate, List.cons_append, List.nil_append, List.append_nil, Option.toList_none, Option.toList_some, hc, gSum, hs, hp, if_true, e, Nat.sub_self, Nat.reduceSub, Nat.reduceAdd]
/-! ### is a row the register's -/
def isRow (p : Int) (taps row : List Int) : Bool := (List.range (row.length - taps.length)).all fun i => decide (dotR taps (row.take (taps.length + i)) % p = row.getD (taps.length + i) 0)
theorem rangeU_nat (a n : Nat) : rangeU (a : Int) n = (List.range n).map fun i => T.int ((a + i : Nat) : Int) := by
  simp only [rangeU]
  refine List.ext_getElem? fun i => ?_
  by_cases h : i < n
  · simp [h]
  · simp [h]
theorem iRange2_j {d : DenA} {ρ ρ' : REnv} {i j : Int} (h : d ρ = some ([.int i, .int j], ρ')) (ha : inBig i = true) (hb : inBig j = true) : iRange2 d ρ = some (rangeU i (j - i).toNat, none, ρ') := by
  simp only [iRange2, h, ha, hb, Option.bind_some, Bool.and_self, if_true]
theorem iRange2_nat {d : DenA} {ρ ρ' : REnv} {a b : Nat} (h : d ρ = some ([.int (a : Nat), .int (b : Nat)], ρ')) (ha : a < 10000) (hb : b < 10000) : iRange2 d ρ = some ((List.range (b - a)).map fun i => T.int ((a + i : Nat) : Int), none, ρ') := by
  have e : ((b : Int) - (a : Int)).toNat = b - a := by omega
  rw [iRange2_j h (inBig_nat ha) (inBig_nat hb), e, rangeU_nat]
theorem ev_is_row {p : Int} {taps row : List Int} (hp : 0 < p) (ht : Sm taps) (hz : taps.length ≤ 1000) (hr : row.length ≤ 1000) :
    f_is_row_of [.int p, .lst (ii taps), .lst (ii row)] = some (.t (.bl (isRow p taps row))) := by
  have hc : c_is_row_of_1 (E_is_row_of (.t (.int p)) (.t (.lst (ii taps))) (.t (.lst (ii row))) .un) = some (.own (.lst (((List.range (row.length - taps.length)).map fun i => decide (dotR taps (row.take (taps.length + i)) % p = row.getD (taps.length + i) 0)).map T.bl)), E_is_row_of (.t (.int p)) (.t (.lst (ii taps))) (.t (.lst (ii row))) .un) := by
    unfold c_is_row_of_1
    rw [List.map_map]
    refine compD_eq (ho := none) (iRange2_nat (a := taps.length) (b := row.length) (ρ' := E_is_row_of (.t (.int p)) (.t (.lst (ii taps))) (.t (.lst (ii row))) .un) ?_ (by omega) (by omega)) (compL_m _ _ _ fun i hi => ?_) ?_
    · simp only [E_is_row_of, den1, den2, gVar, gC, gAdd, gSub, gMod, gNeg, gIx, gLen, gAbs, gInt, gList, gTuple, gCat, L.lview, L.view, L.tree, L.hid, L.asBl, L.asInt, L.truth, dBl, dTru, gB, gEq, gNe, gLt_e, gLe_e, gGt_e, gGe_e, dCons, dNil, dTup, dLst, dSet, stoE, dRet, dDrop, dNot, dAnd, dOr, dYes, gNameT, gTupT, gConsT, gNilT, iEnumT, iSeq, iZipT, hideO, wipeE, restE, dMeth, isOwnL, fAppend, dSl, dSome, dNone, gSl, dCallP, allT, nor, finP, Option.bind_some, Option.map_some, List.getElem?_cons_zero, List.getElem?_cons_succ, List.set_cons_zero, List.set_cons_succ, List.length_cons, List.length_nil, List.map_cons, List.map_nil, List.replicate, List.cons_append, List.nil_append, List.append_nil, Option.toList_none, Option.toList_some, ii_len]
    · have hi : i < row.length - taps.length := by simpa using hi
      let E := E_is_row_of (.t (.int p)) (.t (.lst (ii taps))) (.t (.lst (ii row))) (.t (.int ((taps.length + i : Nat) : Int)))
      refine ⟨E, rfl, .t (.bl (decide (dotR taps (row.take (taps.length + i)) % p = row.getD (taps.length + i) 0))), E, ?_, rfl, rfl⟩
      have hs : dSl (gVar 2) dNone (dSome (gVar 3)) E = some (.own (.lst (ii (row.take (taps.length + i)))), E) := by
        refine dSl_eq (l := .t (.lst (ii row))) (ρ1 := E) (ρ2 := E) rfl rfl (dSome_eq (i := ((taps.length + i : Nat) : Int)) rfl) ?_
        rw [gSl_l, cut_hi]
        simp only [ii, List.map_take]
      have hn : dCallP 3 f_next_number (dCons (gVar 0) (dCons (gVar 1) (dCons (dSl (gVar 2) dNone (dSome (gVar 3))) dNil))) E = some (.t (.int (dotR taps (row.take (taps.length + i)) % p)), E) :=
        dCallP_eq (ts := [.int p, .lst (ii taps), .lst (ii (row.take (taps.length + i)))]) (dCons_eq (l := .t (.int p)) rfl rfl (dCons_eq (l := .t (.lst (ii taps))) rfl rfl (dCons_eq hs rfl rfl))) rfl (ev_next hp (by rw [List.length_take]; omega) ht hz) rfl
      have hx : den2 gIx (gVar 2) (gVar 3) E = some (.t (.int (row.getD (taps.length + i) 0)), E) :=
        den2_eq (l1 := .t (.lst (ii row))) (l2 := .t (.int ((taps.length + i : Nat) : Int))) (ρ1 := E) (ρ2 := E) rfl rfl (gIx_l _ (by
          have := atI_ints (ns := row) (i := ((taps.length + i : Nat) : Int)) (by omega) (by omega)
          rw [this, Int.toNat_natCast]))
      exact den2_eq hn hx (gEq_i _ _ _)
    · rw [List.length_map, List.length_range]; exact Nat.le_trans (Nat.sub_le _ _) (Nat.le_trans hr (by decide))
  have hg := gAll_n (E_is_row_of (.t (.int p)) (.t (.lst (ii taps))) (.t (.lst (ii row))) .un) ((List.range (row.length - taps.length)).map fun i => decide (dotR taps (row.take (taps.length + i)) % p = row.getD (taps.length + i) 0))
  rw [List.all_map] at hg
  have h : t_is_row_of_1 (E_is_row_of (.t (.int p)) (.t (.lst (ii taps))) (.t (.lst (ii row))) .un) = some (.ret (.t (.bl (isRow p taps row))), _) := dRet_eq (den1_eq hc hg)
  exact bodyP_t (n := 3) (m := 4) (d := d_is_row_of) rfl h
end LR
/-! a finder taken as a plain value: one number, a row -/
namespace LR
open PySem LW
open L2 (atI ixN)
structure FS where
  p : Int
  row : List Int
  taps : List Int
  bef : List Int
  pl : Int
  off : Int
def FS.tree (s : FS) : T := .ins ["p", "row", "taps", "before"] [.int s.p, .lst (s.row.map T.int), .lst (s.taps.map T.int), .tup [.lst (s.bef.map T.int), .int s.pl, .int s.off]]
/-! ### one number taken, as a function -/
def intsT : List T → Option (List Int)
  | [] => some []
  | .int i :: xs => (intsT xs).map fun r => i :: r
  | _ => none
theorem intsT_inv : ∀ {xs : List T} {ns : List Int}, intsT xs = some ns → xs = ns.map T.int
  | [], ns, h => by cases h; rfl
  | .int i :: xs, ns, h => by
    cases q : intsT xs with
    | none => simp [intsT, q] at h
    | some r => simp [intsT, q] at h; subst h; rw [intsT_inv q]; rfl
  | .non :: _, _, h => by simp [intsT] at h
  | .bl _ :: _, _, h => by simp [intsT] at h
  | .str _ :: _, _, h => by simp [intsT] at h
  | .lst _ :: _, _, h => by simp [intsT] at h
  | .tup _ :: _, _, h => by simp [intsT] at h
  | .lkl _ :: _, _, h => by simp [intsT] at h
  | .fn _ :: _, _, h => by simp [intsT] at h
  | .dic _ _ _ :: _, _, h => by simp [intsT] at h
  | .ins _ _ :: _, _, h => by simp [intsT] at h
theorem intsT_map : ∀ ns : List Int, intsT (ns.map T.int) = some ns
  | [] => rfl
  | n :: ns => by simp [intsT, intsT_map ns]
def intOf : L → Option Int
  | .t (.int i) => some i
  | _ => none
theorem intOf_inv {l : L} {i : Int} (h : intOf l = some i) : l = .t (.int i) := by
  unfold intOf at h
  split at h
  · cases h; rfl
  · cases h
def ownInts : L → Option (List Int)
  | .own (.lst xs) => intsT xs
  | _ => none
theorem ownInts_inv {l : L} {ns : List Int} (h : ownInts l = some ns) : l = .own (.lst (ns.map T.int)) := by
  unfold ownInts at h
  split at h
  · rw [intsT_inv h]
  · cases h
def offF (s : FS) (n : Int) : Option Int := if s.taps.length ≤ s.row.length then ((f_next_number [.int s.p, .lst (s.taps.map T.int), .lst (s.row.map T.int)]).bind intOf).map fun y => (n - y) % s.p else some 0
def newF (s : FS) (o : Int) : Option (List Int) := (if s.pl < 0 then f_Finder_first_taps [s.tree, .int s.row.length] else f_Finder_made [s.tree, .int o]).bind ownInts
def stepF (s : FS) (n : Int) : Option FS :=
  if 0 < s.p ∧ s.row.length < 1000 then
    (offF s n).bind fun o => if o = 0 then some { s with row := s.row ++ [n] } else
      (newF s o).map fun ts => if s.taps.length < ts.length then { s with row := s.row ++ [n], taps := ts, bef := s.taps, pl := s.row.length, off := o } else { s with row := s.row ++ [n], taps := ts }
  else none
def runF : FS → List Int → Option FS
  | s, [] => some s
  | s, n :: ns => (stepF s n).bind fun s' => runF s' ns
def lensF : FS → List Int → Option (List Int)
  | s, [] => some []
  | s, n :: ns => (stepF s n).bind fun s' => (lensF s' ns).map fun r => (s'.taps.length : Int) :: r
def startF (p : Int) : FS := ⟨p, [], [], [], -1, 1⟩
def f_finder_of : List T → Option L
  | [.int p, .lst xs] => (intsT xs).bind fun ns => (runF (startF p) ns).map fun s => .t s.tree
  | _ => none
def f_lengths_along : List T → Option L
  | [.int p, .lst xs] => (intsT xs).bind fun ns => if ns.length < 1000 then (lensF (startF p) ns).map fun r => .own (.lst (r.map T.int)) else none
  | _ => none
/-! ### attributes -/
section
variable {ρ : REnv} {a b c d : T}
theorem at_p : gAttr "p" ρ (.t (.ins ["p", "row", "taps", "before"] [a, b, c, d])) = some (.t a) := by simp [gAttr, lookT]
theorem at_row : gAttr "row" ρ (.t (.ins ["p", "row", "taps", "before"] [a, b, c, d])) = some (.t b) := by
  have h1 : ¬ (("p" : Str) = "row") := by decide +kernel
  simp [gAttr, lookT, h1]
theorem at_taps : gAttr "taps" ρ (.t (.ins ["p", "row", "taps", "before"] [a, b, c, d])) = some (.t c) := by
  have h1 : ¬ (("p" : Str) = "taps") := by decide +kernel
  have h2 : ¬ (("row" : Str) = "taps") := by decide +kernel
  simp [gAttr, lookT, h1, h2]
theorem at_before : gAttr "before" ρ (.t (.ins ["p", "row", "taps", "before"] [a, b, c, d])) = some (.t d) := by
  have h1 : ¬ (("p" : Str) = "before") := by decide +kernel
  have h2 : ¬ (("row" : Str) = "before") := by decide +kernel
  have h3 : ¬ (("taps" : Str) = "before") := by decide +kernel
  simp [gAttr, lookT, h1, h2, h3]
end
theorem ev_first {s : FS} {n : Nat} (hn : n < 900) : f_Finder_first_taps [s.tree, .int (n : Nat)] = some (.own (.lst (ii (List.replicate (n + 1) 0)))) := by
  let E : REnv := [.t s.tree, .t (.int (n : Nat))]
  have h1 : dLst (dCons (gC (.int 0)) dNil) E = some (.own (.lst [.int 0]), E) := dLst_eq (ts := [.int 0]) rfl (by decide)
  have h2 : den2 gAdd (gVar 1) (gC (.int 1)) E = some (.t (.int ((n : Int) + 1)), E) := den2_eq (l1 := .t (.int n)) (l2 := .t (.int 1)) (ρ1 := E) (ρ2 := E) rfl rfl rfl
  have h3 := den2_eq h1 h2 (gMul_one E (.int 0) (k := (n : Int) + 1) (by omega) (by omega))
  rw [show ((n : Int) + 1).toNat = n + 1 by omega, rep_ii] at h3
  have h : d_Finder_first_taps E = some (.ret (.own (.lst (ii (List.replicate (n + 1) 0)))), E) := by
    unfold d_Finder_first_taps t_Finder_first_taps_1
    exact dRet_eq h3
  exact bodyP_own (n := 2) (m := 2) (d := d_Finder_first_taps) rfl h
/-! ### the mended taps -/
def zr (n : Nat) : List Int := List.replicate n 0
def chg (p k : Int) (tk : Nat) (bef : List Int) : List Int := zr (tk - 1) ++ [k] ++ bef.map fun y => (p - k) * y % p
def madeL (p k : Int) (tk W : Nat) (taps bef : List Int) : List Int :=
  (List.range W).map fun i => ((taps ++ zr (W - taps.length)).getD i 0 + (chg p k tk bef ++ zr (W - (chg p k tk bef).length)).getD i 0) % p
theorem gAdd_to (ρ : REnv) {a b : List T} (h : a.length + b.length ≤ line) : gAdd ρ (.t (.lst a)) (.own (.lst b)) = some (.own (.lst (a ++ b))) := by simp only [gAdd, gCat, L.lview, h, if_true]
theorem zipT_zw : ∀ xs ys : List T, zipT xs ys = List.zipWith (fun x y => T.tup [x, y]) xs ys
  | [], _ => by simp [zipT]
  | _ :: _, [] => by simp [zipT]
  | x :: xs, y :: ys => by simp [zipT, zipT_zw xs ys]
theorem zip_ii (a b : List Int) (h : a.length = b.length) : zipT (ii a) (ii b) = (List.range a.length).map fun i => T.tup [.int (a.getD i 0), .int (b.getD i 0)] := by
  refine List.ext_getElem? fun i => ?_
  rw [zipT_zw]
  by_cases hi : i < a.length
  · have hb : i < b.length := by omega
    simp [ii, hi, hb, List.getElem?_zipWith]
  · have hb : ¬ i < b.length := by omega
    simp [ii, hi, List.getElem?_zipWith]
theorem chg_len {p k : Int} {tk : Nat} {bef : List Int} (h : 0 < tk) : (chg p k tk bef).length = tk + bef.length := by simp [chg, zr]; omega
theorem ev_made {p : Nat} (hp : BM.isP p) {s : FS} (hsp : s.p = p) {a : Nat} (ha : s.pl = a) (han : a < s.row.length) (hn : s.row.length < 900) {o : Int} (o0 : 0 < o) (o1 : o < p) (f0 : 0 < s.off) (f1 : s.off < p)
    (hL : s.taps.length + s.bef.length = a + 1) (hLn : s.taps.length ≤ s.row.length) (hb : Sm s.bef) (ht : Sm s.taps) :
    f_Finder_made [s.tree, .int o] = some (.own (.lst (ii (madeL p (o * BM.inv p s.off % p) (s.row.length - a) (max s.taps.length (s.row.length + 1 - s.taps.length)) s.taps s.bef)))) := by
  have pp := hp.pos
  have hp0 : (0 : Int) < (p : Int) := by omega
  let n := s.row.length
  let Ln := s.taps.length
  let W := max Ln (n + 1 - Ln)
  let k := o * BM.inv p s.off % (p : Int)
  let tk := n - a
  have k0 : 0 ≤ k ∧ k < p := ⟨Int.emod_nonneg _ (by omega), Int.emod_lt_of_pos _ hp0⟩
  let E (v2 v3 v4 v5 v6 v7 v8 v10 v11 v12 : L) : REnv := E_Finder_made (.t s.tree) (.t (.int o)) v2 v3 v4 v5 v6 v7 v8 .un v10 v11 v12 .un
  let P : L := .t (.int (p : Nat))
  let B : L := .t (.lst (ii s.bef))
  let A : L := .t (.int (a : Nat))
  let F : L := .t (.int s.off)
  have s1 : t_Finder_made_1 (E .un .un .un .un .un .un .un .un .un .un) = some (.nx, E P .un .un .un .un .un .un .un .un .un) := by
    have h := dSet_t (i := 2) (den1_eq (d := gVar 0) (ρ := E .un .un .un .un .un .un .un .un .un .un) (l1 := .t s.tree) rfl at_p) (show 2 < 14 by decide)
    rw [hsp] at h
    exact h
  have s2 : t_Finder_made_2 (E P .un .un .un .un .un .un .un .un .un) = some (.nx, E P B A F .un .un .un .un .un .un) := by
    have h := den1_eq (d := gVar 0) (ρ := E P .un .un .un .un .un .un .un .un .un) (l1 := .t s.tree) rfl at_before
    rw [ha] at h
    exact dAsg_eq h rfl rfl
  have aL : ∀ {v2 v3 v4 v5 v6 v7 v8 v10 v11 v12 : L}, den1 gLen (den1 (gAttr "row") (gVar 0)) (E v2 v3 v4 v5 v6 v7 v8 v10 v11 v12) = some (.t (.int (n : Nat)), E v2 v3 v4 v5 v6 v7 v8 v10 v11 v12) := den1_eq (den1_eq (l1 := .t s.tree) rfl at_row) (gLen_l _ _)
  have aT : ∀ {v2 v3 v4 v5 v6 v7 v8 v10 v11 v12 : L}, den1 (gAttr "taps") (gVar 0) (E v2 v3 v4 v5 v6 v7 v8 v10 v11 v12) = some (.t (.lst (ii s.taps)), E v2 v3 v4 v5 v6 v7 v8 v10 v11 v12) := den1_eq (l1 := .t s.tree) rfl at_taps
  have aTl : ∀ {v2 v3 v4 v5 v6 v7 v8 v10 v11 v12 : L}, den1 gLen (den1 (gAttr "taps") (gVar 0)) (E v2 v3 v4 v5 v6 v7 v8 v10 v11 v12) = some (.t (.int (Ln : Nat)), E v2 v3 v4 v5 v6 v7 v8 v10 v11 v12) := den1_eq aT (gLen_l _ _)
  let TK : L := .t (.int (tk : Nat))
  have s3 : t_Finder_made_3 (E P B A F .un .un .un .un .un .un) = some (.nx, E P B A F TK .un .un .un .un .un) := by
    have h := dSet_t (i := 6) (den2_eq (g := gSub) (d2 := gVar 4) (aL (v2 := P) (v3 := B) (v4 := A) (v5 := F) (v6 := .un) (v7 := .un) (v8 := .un) (v10 := .un) (v11 := .un) (v12 := .un)) (l2 := A) (ρ2 := E P B A F .un .un .un .un .un .un) rfl (l := .t (.int ((n : Int) - a))) rfl) (show 6 < 14 by decide)
    rw [show ((n : Int) - (a : Nat)) = ((tk : Nat) : Int) by simp only [tk, n]; omega] at h
    exact h
  let KK : L := .t (.int k)
  have s4 : t_Finder_made_4 (E P B A F TK .un .un .un .un .un) = some (.nx, E P B A F TK KK .un .un .un .un) := by
    let R := E P B A F TK .un .un .un .un .un
    have iv := BM.inv_ok hp f0 f1
    have c : dCallP 2 f_inverse_number (dCons (gVar 2) (dCons (gVar 5) dNil)) R = some (.t (.int (BM.inv p s.off)), R) := dCallP_eq (ts := [.int (p : Nat), .int s.off]) rfl rfl (ev_inverse hp f0 f1) rfl
    have m := den2_eq (d1 := gVar 1) (ρ := R) (ρ1 := R) (l1 := .t (.int o)) rfl c (gMul_e _ (mulOk_small (by omega) (by omega)))
    exact dSet_t (i := 7) (den2_eq m (d2 := gVar 2) (l2 := P) (ρ2 := R) rfl (gMod_e _ hp0)) (show 7 < 14 by decide)
  let CH : List Int := chg p k tk s.bef
  have tk0 : 0 < tk := by simp only [tk, n]; omega
  have chl : CH.length = tk + s.bef.length := chg_len tk0
  have chW : CH.length ≤ W := by rw [chl]; simp only [W, tk, n, Ln]; omega
  have Wn : W ≤ n + 1 := by simp only [W, n, Ln]; omega
  have s5 : t_Finder_made_5 (E P B A F TK KK .un .un .un .un) = some (.nx, E P B A F TK KK (.own (.lst (ii CH))) .un .un .un) := by
    let R := E P B A F TK KK .un .un .un .un
    have hz : dLst (dCons (gC (.int 0)) dNil) R = some (.own (.lst [.int 0]), R) := dLst_eq (ts := [.int 0]) rfl (by decide)
    have ht1 : den2 gSub (gVar 6) (gC (.int 1)) R = some (.t (.int ((tk : Int) - 1)), R) := den2_eq (l1 := TK) (l2 := .t (.int 1)) (ρ1 := R) (ρ2 := R) rfl rfl rfl
    have h1 := den2_eq hz ht1 (gMul_one R (.int 0) (k := (tk : Int) - 1) (by omega) (by simp only [tk, n]; omega))
    rw [show ((tk : Int) - 1).toNat = tk - 1 by omega, rep_ii] at h1
    have h2 : dLst (dCons (dFrz 7) dNil) R = some (.own (.lst [.int k]), R) := dLst_eq (ts := [.int k]) rfl (show (1 : Nat) ≤ line by decide)
    have h3 := den2_eq h1 h2 (gAdd_o R (by simp [line, tk, n]; omega))
    have hc : c_Finder_made_1 R = some (.own (.lst (ii (s.bef.map fun y => ((p : Int) - k) * y % p))), R) := by
      unfold c_Finder_made_1
      have := compD_eq (src := iSeq (gVar 3)) (vs := [9]) (g := gNameT 9) (dt := dYes) (de := den2 gMod (den2 gMul (den2 gSub (gVar 2) (gVar 7)) (gVar 9)) (gVar 2)) (ρ := R) (ρ1 := R) (ho := none) (xs := s.bef.map T.int) rfl (compL_m (fun y : Int => T.int y) (fun y => T.int (((p : Int) - k) * y % p)) s.bef fun y hy => by
        let R' := E_Finder_made (.t s.tree) (.t (.int o)) P B A F TK KK .un (.t (.int y)) .un .un .un .un
        have by_ := hb y hy
        refine ⟨R', rfl, .t (.int (((p : Int) - k) * y % p)), R', ?_, rfl, rfl⟩
        have m1 : den2 gSub (gVar 2) (gVar 7) R' = some (.t (.int ((p : Int) - k)), R') := den2_eq (l1 := P) (l2 := KK) (ρ1 := R') (ρ2 := R') rfl rfl rfl
        have m2 := den2_eq m1 (d2 := gVar 9) (l2 := .t (.int y)) (ρ2 := R') rfl (gMul_e R' (mulOk_small (by omega) (by omega)))
        exact den2_eq m2 (d2 := gVar 2) (l2 := P) (ρ2 := R') rfl (gMod_e _ hp0)) (by rw [List.length_map]; exact Nat.le_trans (show s.bef.length ≤ 1000 by omega) (by decide))
      rw [ii, List.map_map]
      exact this
    have h4 := den2_eq h3 hc (gAdd_o R (by simp [line, tk, n]; omega))
    have e : ii (List.replicate (tk - 1) 0) ++ [T.int k] ++ ii (s.bef.map fun y => ((p : Int) - k) * y % p) = ii CH := by simp [CH, chg, zr, ii]
    rw [e] at h4
    exact dSet_o (i := 8) h4 (show 8 < 14 by decide)
  let CO : L := .own (.lst (ii CH))
  let WW : L := .t (.int (W : Nat))
  have s6 : t_Finder_made_6 (E P B A F TK KK CO .un .un .un) = some (.nx, E P B A F TK KK CO WW .un .un) := by
    let R := E P B A F TK KK CO .un .un .un
    have h1 : den2 gAdd (den1 gLen (den1 (gAttr "row") (gVar 0))) (gC (.int 1)) R = some (.t (.int ((n : Int) + 1)), R) := den2_eq aL (l2 := .t (.int 1)) (ρ2 := R) rfl rfl
    have h2 : den2 gSub (den2 gAdd (den1 gLen (den1 (gAttr "row") (gVar 0))) (gC (.int 1))) (den1 gLen (den1 (gAttr "taps") (gVar 0))) R = some (.t (.int ((n : Int) + 1 - Ln)), R) := den2_eq h1 aTl rfl
    have h3 := den2_eq (g := gMax2) (aTl (v2 := P) (v3 := B) (v4 := A) (v5 := F) (v6 := TK) (v7 := KK) (v8 := CO) (v10 := .un) (v11 := .un) (v12 := .un)) h2 (l := .t (.int (if (n : Int) + 1 - Ln > Ln then (n : Int) + 1 - Ln else Ln))) rfl
    rw [show (if (n : Int) + 1 - Ln > Ln then (n : Int) + 1 - Ln else Ln) = ((W : Nat) : Int) by simp only [W]; split <;> omega] at h3
    exact dSet_t (i := 10) h3 (show 10 < 14 by decide)
  let ON : List Int := s.taps ++ zr (W - Ln)
  have s7 : t_Finder_made_7 (E P B A F TK KK CO WW .un .un) = some (.nx, E P B A F TK KK CO WW (.own (.lst (ii ON))) .un) := by
    let R := E P B A F TK KK CO WW .un .un
    have hz : dLst (dCons (gC (.int 0)) dNil) R = some (.own (.lst [.int 0]), R) := dLst_eq (ts := [.int 0]) rfl (by decide)
    have h1 : den2 gSub (gVar 10) (den1 gLen (den1 (gAttr "taps") (gVar 0))) R = some (.t (.int ((W : Int) - Ln)), R) := den2_eq (l1 := WW) (ρ1 := R) rfl aTl rfl
    have h2 := den2_eq hz h1 (gMul_one R (.int 0) (k := (W : Int) - Ln) (by simp only [W]; omega) (by omega))
    rw [show ((W : Int) - Ln).toNat = W - Ln by simp only [W]; omega, rep_ii] at h2
    have h3 := den2_eq (aT (v2 := P) (v3 := B) (v4 := A) (v5 := F) (v6 := TK) (v7 := KK) (v8 := CO) (v10 := WW) (v11 := .un) (v12 := .un)) h2 (gAdd_to R (by simp [line]; omega))
    have e : ii s.taps ++ ii (List.replicate (W - Ln) 0) = ii ON := by simp [ON, zr, ii]
    rw [e] at h3
    exact dSet_o (i := 11) h3 (show 11 < 14 by decide)
  let OO : L := .own (.lst (ii ON))
  let OT : List Int := CH ++ zr (W - CH.length)
  have s8 : t_Finder_made_8 (E P B A F TK KK CO WW OO .un) = some (.nx, E P B A F TK KK CO WW OO (.own (.lst (ii OT)))) := by
    let R := E P B A F TK KK CO WW OO .un
    have hz : dLst (dCons (gC (.int 0)) dNil) R = some (.own (.lst [.int 0]), R) := dLst_eq (ts := [.int 0]) rfl (by decide)
    have hl : den1 gLen (gVar 8) R = some (.t (.int (CH.length : Nat)), R) := by
      have := den1_eq (d := gVar 8) (l1 := .ref 8) (ρ := R) (ρ1 := R) rfl (gLen_r R (k := 8) (t := ii CH) rfl)
      rw [ii_len] at this
      exact this
    have h1 : den2 gSub (gVar 10) (den1 gLen (gVar 8)) R = some (.t (.int ((W : Int) - CH.length)), R) := den2_eq (l1 := WW) (ρ1 := R) rfl hl rfl
    have h2 := den2_eq hz h1 (gMul_one R (.int 0) (k := (W : Int) - CH.length) (by omega) (by omega))
    rw [show ((W : Int) - CH.length).toNat = W - CH.length by omega, rep_ii] at h2
    have h3 := den2_eq (d1 := gVar 8) (l1 := .ref 8) (ρ := R) (ρ1 := R) rfl h2 (gAdd_ro R (k := 8) (a := ii CH) rfl (by simp [line]; omega))
    have e : ii CH ++ ii (List.replicate (W - CH.length) 0) = ii OT := by simp [OT, zr, ii]
    rw [e] at h3
    exact dSet_o (i := 12) h3 (show 12 < 14 by decide)
  have lon : ON.length = W := by simp [ON, zr, Ln, W]; omega
  have lot : OT.length = W := by simp [OT, zr]; omega
  let R1 := E P B A F TK KK CO WW (.own (.lst (ii ON))) (.own (.lst (ii OT)))
  let R2 := E P B A F TK KK CO WW (.t (.lst (ii ON))) (.t (.lst (ii OT)))
  have sON : ∀ i, 0 ≤ ON.getD i 0 ∧ ON.getD i 0 < 1000 := fun i => Sm.get (ns := ON) (fun x hx => by
    rcases List.mem_append.mp hx with h | h
    · exact ht x h
    · rw [(List.mem_replicate.mp h).2]; exact ⟨by decide, by decide⟩) i
  have hc : c_Finder_made_2 R1 = some (.own (.lst (ii (madeL p k tk W s.taps s.bef))), R2) := by
    unfold c_Finder_made_2
    have hs : iZipT (dFrz 11) (dFrz 12) R1 = some ((List.range W).map fun i => T.tup [.int (ON.getD i 0), .int (OT.getD i 0)], none, R2) := by
      have := zip_ii ON OT (by rw [lon, lot])
      rw [lon] at this
      rw [← this]
      rfl
    have := compD_eq (ho := none) hs (compL_m (de := den2 gMod (den2 gAdd (gVar 9) (gVar 13)) (gVar 2)) (vs := [9, 13]) (g := gTupT 2 (gConsT (gNameT 9) (gConsT (gNameT 13) gNilT))) (fun i : Nat => T.tup [.int (ON.getD i 0), .int (OT.getD i 0)]) (fun i => T.int ((ON.getD i 0 + OT.getD i 0) % p)) (List.range W) fun i hi => by
      let R' := E_Finder_made (.t s.tree) (.t (.int o)) P B A F TK KK CO (.t (.int (ON.getD i 0))) WW (.t (.lst (ii ON))) (.t (.lst (ii OT))) (.t (.int (OT.getD i 0)))
      refine ⟨R', rfl, .t (.int ((ON.getD i 0 + OT.getD i 0) % p)), R', ?_, rfl, rfl⟩
      have m1 : den2 gAdd (gVar 9) (gVar 13) R' = some (.t (.int (ON.getD i 0 + OT.getD i 0)), R') := den2_eq (l1 := .t (.int (ON.getD i 0))) (l2 := .t (.int (OT.getD i 0))) (ρ1 := R') (ρ2 := R') rfl rfl rfl
      exact den2_eq m1 (d2 := gVar 2) (l2 := P) (ρ2 := R') rfl (gMod_e _ hp0)) (by rw [List.length_map, List.length_range]; exact Nat.le_trans (show W ≤ 1000 by omega) (by decide))
    have e : ii (madeL p k tk W s.taps s.bef) = (List.range W).map fun i => T.int ((ON.getD i 0 + OT.getD i 0) % p) := by
      rw [ii, madeL, List.map_map]
      rfl
    rw [e]
    exact this
  have hd : d_Finder_made (E .un .un .un .un .un .un .un .un .un .un) = some (.ret (.own (.lst (ii (madeL p k tk W s.taps s.bef)))), R2) := by
    unfold d_Finder_made
    rw [dSeq_nx s1, dSeq_nx s2, dSeq_nx s3, dSeq_nx s4, dSeq_nx s5, dSeq_nx s6, dSeq_nx s7, dSeq_nx s8]
    exact dRet_eq hc
  exact bodyP_own (n := 2) (m := 14) (d := d_Finder_made) rfl hd
end LR
/-! the finder's taps are the least register's -/
namespace LR
open PySem LW
open L2 (atI ixN)
/-- numbers of the field -/
def Nm (p : Nat) (l : List Int) : Prop := ∀ x ∈ l, 0 ≤ x ∧ x < (p : Int)
theorem Nm.get {p : Nat} {l : List Int} (hp : 0 < p) (h : Nm p l) (i : Nat) : 0 ≤ BM.g l i ∧ BM.g l i < p := by
  unfold BM.g
  by_cases hi : i < l.length
  · rw [List.getD_eq_getElem?_getD, List.getElem?_eq_getElem hi]
    exact h _ (List.getElem_mem hi)
  · rw [List.getD_eq_getElem?_getD, List.getElem?_eq_none (by omega)]
    exact ⟨by decide, by simp; omega⟩
theorem Nm.sm {p : Nat} {l : List Int} (hp : BM.isP p) (h : Nm p l) : Sm l := fun x hx => ⟨(h x hx).1, by have := (h x hx).2; have := hp.pos; omega⟩
theorem Nm.app {p : Nat} {a b : List Int} (h : Nm p a) (h2 : Nm p b) : Nm p (a ++ b) := fun x hx => (List.mem_append.mp hx).elim (h x) (h2 x)
theorem Nm.one {p : Nat} {x : Int} (h : 0 ≤ x ∧ x < (p : Int)) : Nm p [x] := fun y hy => by rw [List.mem_singleton.mp hy]; exact h
theorem Fol_congr {p : Int} {r r' c : Nat → Int} {L n : Nat} (h : ∀ i, i < n → r i = r' i) (f : BM.Fol p r c L n) : BM.Fol p r' c L n := by
  intro m h1 h2
  have := f m h1 h2
  rw [h m h2] at this
  have e : BM.dot c r L m = BM.dot c r' L m := BM.sm_congr fun i hi => by rw [h _ (by omega)]
  rwa [e] at this
theorem g_app1 {a b : List Int} {i : Nat} (h : i < a.length) : BM.g (a ++ b) i = BM.g a i := getD_app1 h
theorem g_app2 {a : List Int} {x : Int} : BM.g (a ++ [x]) a.length = x := by
  show (a ++ [x]).getD a.length 0 = x
  rw [getD_app2 (Nat.le_refl _), Nat.sub_self]
  rfl
theorem g_zr (l : List Int) (k i : Nat) : (l ++ zr k).getD i 0 = l.getD i 0 := by
  by_cases h : i < l.length
  · exact getD_app1 h
  · rw [getD_app2 (by omega)]
    simp only [List.getD_eq_getElem?_getD, zr, List.getElem?_replicate]
    rw [List.getElem?_eq_none (l := l) (by omega)]
    split <;> rfl
theorem dot_congr {c r r' : Nat → Int} {L m : Nat} (h : ∀ i, i < m → r i = r' i) (hL : L ≤ m) : BM.dot c r L m = BM.dot c r' L m := BM.sm_congr fun i hi => by rw [h _ (by omega)]
structure Inv (p : Nat) (s : FS) : Prop where
  sp : s.p = p
  rw : Nm p s.row
  tp : Nm p s.taps
  bf : Nm p s.bef
  le : s.taps.length ≤ s.row.length
  fo : BM.Fol p (BM.g s.row) (BM.g s.taps) s.taps.length s.row.length
  ca : (s.pl = -1 ∧ s.taps = [] ∧ s.bef = [] ∧ ∀ x ∈ s.row, x = 0) ∨
    ∃ a : Nat, s.pl = a ∧ a < s.row.length ∧ s.bef.length ≤ a ∧ BM.Fol p (BM.g s.row) (BM.g s.bef) s.bef.length a ∧
      (p : Int) ∣ (BM.g s.row a - BM.dot (BM.g s.bef) (BM.g s.row) s.bef.length a) - s.off ∧ 0 < s.off ∧ s.off < p ∧ s.taps.length + s.bef.length = a + 1
theorem not_dvd {p x y o : Int} (h : p ∣ x - o) (h0 : 0 < o) (h1 : o < p) (e : y = -x) : ¬ p ∣ y := fun hy => by
  have : p ∣ o := by
    have := Int.dvd_add h hy
    rw [← Int.dvd_neg]
    rwa [show -o = x - o + y by omega]
  have := Int.le_of_dvd h0 this
  omega
theorem Inv.min {p : Nat} {s : FS} (I : Inv p s) {c : Nat → Int} {L : Nat} (h : BM.Fol p (BM.g s.row) c L s.row.length) : s.taps.length ≤ L := by
  rcases I.ca with ⟨_, h1, _⟩ | ⟨a, _, h2, h3, h4, h5, h6, h7, h8⟩
  · rw [h1]; exact Nat.zero_le _
  · have := BM.massey h4 h3 (h.mono (n' := a + 1) (by omega)) (not_dvd h5 h6 h7 (by omega))
    omega
theorem Nm.nil {p : Nat} : Nm p [] := fun _ h => by cases h
theorem Inv.start {p : Nat} : Inv p (startF p) := ⟨rfl, Nm.nil, Nm.nil, Nm.nil, Nat.le_refl _, fun m _ h => (Nat.not_lt_zero _ h).elim, .inl ⟨rfl, rfl, rfl, fun _ h => by cases h⟩⟩
theorem ownInts_ii (l : List Int) : ownInts (.own (.lst (ii l))) = some l := intsT_map l
theorem off_ok {p : Nat} (hp : 0 < p) {s : FS} (I : Inv p s) (hP : BM.isP p) (hn : s.row.length < 900) (n : Int) : offF s n = some ((n - dotR s.taps s.row % p) % p) := by
  have pp := hP.pos
  unfold offF
  rw [if_pos I.le, I.sp]
  have := ev_next (p := (p : Int)) (taps := s.taps) (row := s.row) (by omega) I.le (I.tp.sm hP) (by have := I.le; omega)
  rw [show s.taps.map T.int = ii s.taps from rfl, show s.row.map T.int = ii s.row from rfl, this]
  rfl
theorem made_g {p : Int} {k : Int} {tk W : Nat} {taps bef : List Int} {i : Nat} (hi : i < W) : BM.g (madeL p k tk W taps bef) i = (taps.getD i 0 + (chg p k tk bef).getD i 0) % p := by
  unfold BM.g madeL
  rw [getD_range hi, g_zr, g_zr]
theorem made_g2 {p : Int} {k : Int} {tk W : Nat} {taps bef : List Int} {i : Nat} (hi : W ≤ i) : BM.g (madeL p k tk W taps bef) i = 0 := by
  unfold BM.g madeL
  rw [List.getD_eq_getElem?_getD, List.getElem?_eq_none (by simpa using hi)]
  rfl
theorem chg_g {p : Int} {k : Int} {tk : Nat} {bef : List Int} (h0 : 0 < tk) (i : Nat) : p ∣ (chg p k tk bef).getD i 0 - (if i < tk - 1 then 0 else if i = tk - 1 then k else if i < tk + bef.length then - k * BM.g bef (i - tk) else 0) := by
  unfold chg
  by_cases h1 : i < tk - 1
  · rw [if_pos h1, List.append_assoc, getD_app1 (by simpa [zr] using h1)]
    have : (zr (tk - 1)).getD i 0 = 0 := by simp [zr, List.getD_eq_getElem?_getD, List.getElem?_replicate, h1]
    rw [this]; exact ⟨0, by simp⟩
  · rw [if_neg h1]
    by_cases h2 : i = tk - 1
    · rw [if_pos h2, getD_app1 (by simp [zr]; omega), getD_app2 (by simp [zr]; omega)]
      have : ([k] : List Int).getD (i - (zr (tk - 1)).length) 0 = k := by rw [h2]; simp [zr]
      rw [this]; exact ⟨0, by simp⟩
    · rw [if_neg h2, getD_app2 (by simp [zr]; omega)]
      have e : i - (zr (tk - 1) ++ [k]).length = i - tk := by simp [zr]; omega
      rw [e]
      by_cases h3 : i < tk + bef.length
      · rw [if_pos h3]
        have : (bef.map fun y => (p - k) * y % p).getD (i - tk) 0 = (p - k) * BM.g bef (i - tk) % p := by
          have hb : i - tk < bef.length := by omega
          simp [List.getD_eq_getElem?_getD, hb, BM.g]
        rw [this]
        have h := BM.emod_dvd ((p - k) * BM.g bef (i - tk)) p
        have h' : p ∣ p * BM.g bef (i - tk) := Int.dvd_mul_right _ _
        have := Int.dvd_add h h'
        rwa [show (p - k) * BM.g bef (i - tk) % p - (p - k) * BM.g bef (i - tk) + p * BM.g bef (i - tk) = (p - k) * BM.g bef (i - tk) % p - -k * BM.g bef (i - tk) by rw [Int.sub_mul, Int.neg_mul]; omega] at this
      · rw [if_neg h3]
        have : (bef.map fun y => (p - k) * y % p).getD (i - tk) 0 = 0 := by
          rw [List.getD_eq_getElem?_getD, List.getElem?_eq_none (by simp; omega)]
          rfl
        rw [this]; exact ⟨0, by simp⟩
theorem Inv.step {p : Nat} (hp : BM.isP p) {s : FS} (I : Inv p s) (hn : s.row.length < 900) {x : Int} (hx : 0 ≤ x ∧ x < (p : Int)) : ∃ s', stepF s x = some s' ∧ Inv p s' ∧ s'.row = s.row ++ [x] := by
  have pp := hp.pos
  have p0 : (0 : Int) < (p : Int) := by omega
  have ho := off_ok (by omega) I hp hn x
  let o := (x - dotR s.taps s.row % p) % (p : Int)
  have o0 : 0 ≤ o := Int.emod_nonneg _ (by omega)
  have o1 : o < p := Int.emod_lt_of_pos _ p0
  have od : (p : Int) ∣ (x - dotR s.taps s.row) - o := by
    have h1 := BM.emod_dvd (x - dotR s.taps s.row % p) p
    have h2 := BM.emod_dvd (dotR s.taps s.row) p
    have := Int.dvd_sub h1 h2
    rw [← Int.dvd_neg]
    rwa [show -(x - dotR s.taps s.row - o) = (x - dotR s.taps s.row % p) % p - (x - dotR s.taps s.row % p) - (dotR s.taps s.row % p - dotR s.taps s.row) by simp only [o]; omega]
  have row' : Nm p (s.row ++ [x]) := I.rw.app (.one hx)
  have rl : (s.row ++ [x]).length = s.row.length + 1 := by simp
  have rc : ∀ i, i < s.row.length → BM.g s.row i = BM.g (s.row ++ [x]) i := fun i hi => (g_app1 hi).symm
  have dx : dotR s.taps s.row = BM.dot (BM.g s.taps) (BM.g (s.row ++ [x])) s.taps.length s.row.length := dot_congr rc I.le
  by_cases hz : o = 0
  · refine ⟨{ s with row := s.row ++ [x] }, ?_, ⟨I.sp, row', I.tp, I.bf, ?_, ?_, ?_⟩, rfl⟩
    · unfold stepF
      rw [if_pos ⟨by rw [I.sp]; exact p0, by omega⟩, ho, Option.bind_some, if_pos hz]
    · show s.taps.length ≤ (s.row ++ [x]).length
      have := I.le; omega
    · intro m h1 h2
      have h2 : m < (s.row ++ [x]).length := h2
      by_cases hm : m < s.row.length
      · exact (Fol_congr rc I.fo) m h1 hm
      · have e : m = s.row.length := by omega
        subst e
        show (p : Int) ∣ BM.dot (BM.g s.taps) (BM.g (s.row ++ [x])) s.taps.length s.row.length - BM.g (s.row ++ [x]) s.row.length
        rw [← dx, g_app2, ← Int.dvd_neg]
        rw [hz] at od
        rwa [show -(dotR s.taps s.row - x) = x - dotR s.taps s.row - 0 by omega]
    · rcases I.ca with ⟨c1, c2, c3, c4⟩ | ⟨a, c1, c2, c3, c4, c5, c6, c7, c8⟩
      · refine .inl ⟨c1, c2, c3, fun y hy => ?_⟩
        rcases List.mem_append.mp hy with hy | hy
        · exact c4 y hy
        · rw [List.mem_singleton.mp hy]
          rw [hz] at od
          have : dotR s.taps s.row = 0 := by unfold dotR; rw [c2]; rfl
          rw [this] at od
          rw [show x - 0 - 0 = x by omega] at od
          by_cases hx0 : x = 0
          · exact hx0
          · have := Int.le_of_dvd (by omega) od
            omega
      · refine .inr ⟨a, c1, by show a < (s.row ++ [x]).length; omega, c3, Fol_congr (fun i hi => rc i (by omega)) c4, ?_, c6, c7, c8⟩
        show (p : Int) ∣ (BM.g (s.row ++ [x]) a - BM.dot (BM.g s.bef) (BM.g (s.row ++ [x])) s.bef.length a) - s.off
        rw [← rc a c2, ← dot_congr (fun i hi => rc i (by omega)) c3]
        exact c5
  · have op : 0 < o := by omega
    rcases I.ca with ⟨c1, c2, c3, c4⟩ | ⟨a, c1, c2, c3, c4, c5, c6, c7, c8⟩
    · have hnew : newF s o = some (List.replicate (s.row.length + 1) 0) := by
        unfold newF
        rw [if_pos (by rw [c1]; decide), ev_first hn]
        exact ownInts_ii _
      refine ⟨{ s with row := s.row ++ [x], taps := List.replicate (s.row.length + 1) 0, bef := s.taps, pl := s.row.length, off := o }, ?_, ⟨I.sp, row', ?_, I.tp, ?_, ?_, .inr ⟨s.row.length, rfl, ?_, ?_, ?_, ?_, op, o1, ?_⟩⟩, rfl⟩
      · unfold stepF
        rw [if_pos ⟨by rw [I.sp]; exact p0, by omega⟩, ho, Option.bind_some, if_neg hz]
        show (newF s o).map _ = _
        rw [hnew, Option.map_some, if_pos (by rw [c2]; simp)]
      · intro y hy
        rw [(List.mem_replicate.mp hy).2]
        exact ⟨by decide, p0⟩
      · show (List.replicate (s.row.length + 1) (0 : Int)).length ≤ (s.row ++ [x]).length
        simp
      · intro m h1 h2
        have h1 : (List.replicate (s.row.length + 1) (0 : Int)).length ≤ m := h1
        have h2 : m < (s.row ++ [x]).length := h2
        simp at h1 h2
        omega
      · show s.row.length < (s.row ++ [x]).length; omega
      · show s.taps.length ≤ s.row.length; rw [c2]; exact Nat.zero_le _
      · exact Fol_congr rc I.fo
      · show (p : Int) ∣ (BM.g (s.row ++ [x]) s.row.length - BM.dot (BM.g s.taps) (BM.g (s.row ++ [x])) s.taps.length s.row.length) - o
        rw [← dx, g_app2]
        exact od
      · show (List.replicate (s.row.length + 1) (0 : Int)).length + s.taps.length = s.row.length + 1
        rw [c2]; simp
    · let k := o * BM.inv p s.off % (p : Int)
      let W := max s.taps.length (s.row.length + 1 - s.taps.length)
      let ts := madeL p k (s.row.length - a) W s.taps s.bef
      have hm := ev_made hp I.sp c1 c2 hn op o1 c6 c7 c8 I.le (I.bf.sm hp) (I.tp.sm hp)
      have hnew : newF s o = some ts := by
        unfold newF
        rw [if_neg (by rw [c1]; omega), hm]
        exact ownInts_ii _
      have lts : ts.length = W := by simp [ts, madeL]
      have nts : Nm p ts := fun y hy => by
        obtain ⟨i, _, rfl⟩ := List.mem_map.mp hy
        exact ⟨Int.emod_nonneg _ (by omega), Int.emod_lt_of_pos _ p0⟩
      have c4' : BM.Fol p (BM.g (s.row ++ [x])) (BM.g s.bef) s.bef.length a := Fol_congr (fun i hi => rc i (by omega)) c4
      have c5' : (p : Int) ∣ (BM.g (s.row ++ [x]) a - BM.dot (BM.g s.bef) (BM.g (s.row ++ [x])) s.bef.length a) - s.off := by
        rw [← rc a c2, ← dot_congr (fun i hi => rc i (by omega)) c3]
        exact c5
      have hk : (p : Int) ∣ k * (BM.g (s.row ++ [x]) a - BM.dot (BM.g s.bef) (BM.g (s.row ++ [x])) s.bef.length a) - (BM.g (s.row ++ [x]) s.row.length - BM.dot (BM.g s.taps) (BM.g (s.row ++ [x])) s.taps.length s.row.length) := by
        rw [← dx, g_app2]
        have iv := (BM.inv_ok hp c6 c7).1
        have h1 := BM.dr k c5'
        have h2 : (p : Int) ∣ k * s.off - o * (BM.inv p s.off * s.off) := by
          have := Int.dvd_trans (BM.emod_dvd (o * BM.inv p s.off) p) (Int.dvd_mul_right _ s.off)
          rwa [Int.sub_mul, Int.mul_assoc o] at this
        have h3 : (p : Int) ∣ o - o * (BM.inv p s.off * s.off) := by
          have := BM.dr o (BM.emod_dvd (BM.inv p s.off * s.off) p)
          rwa [iv, Int.mul_sub, Int.mul_one] at this
        rw [Int.mul_sub] at h1
        have := Int.dvd_sub (Int.dvd_add h1 h2) (Int.dvd_add h3 od)
        rwa [show k * (BM.g (s.row ++ [x]) a - BM.dot (BM.g s.bef) (BM.g (s.row ++ [x])) s.bef.length a) - k * s.off + (k * s.off - o * (BM.inv p s.off * s.off)) - (o - o * (BM.inv p s.off * s.off) + (x - dotR s.taps s.row - o)) = k * (BM.g (s.row ++ [x]) a - BM.dot (BM.g s.bef) (BM.g (s.row ++ [x])) s.bef.length a) - (x - dotR s.taps s.row) by omega] at this
      have fts : BM.Fol p (BM.g (s.row ++ [x])) (BM.g ts) W (s.row.length + 1) := by
        refine BM.mend (off := s.off) (Fol_congr rc I.fo) c4' c8 c2 I.le c3 hk (BM.g ts) fun i => ?_
        by_cases hi : i < W
        · have e : BM.g ts i = (s.taps.getD i 0 + (chg p k (s.row.length - a) s.bef).getD i 0) % p := made_g hi
          have e2 : (if i < s.taps.length then BM.g s.taps i else 0) = s.taps.getD i 0 := by
            split
            · rfl
            · rw [List.getD_eq_getElem?_getD, List.getElem?_eq_none (by omega)]; rfl
          rw [e, e2]
          have h1 := BM.emod_dvd (s.taps.getD i 0 + (chg p k (s.row.length - a) s.bef).getD i 0) p
          have h2 := chg_g (p := (p : Int)) (k := k) (tk := s.row.length - a) (bef := s.bef) (by omega) i
          have := Int.dvd_add h1 h2
          rwa [show (s.taps.getD i 0 + (chg p k (s.row.length - a) s.bef).getD i 0) % (p : Int) - (s.taps.getD i 0 + (chg p k (s.row.length - a) s.bef).getD i 0) + ((chg p k (s.row.length - a) s.bef).getD i 0 - (if i < s.row.length - a - 1 then 0 else if i = s.row.length - a - 1 then k else if i < s.row.length - a + s.bef.length then - k * BM.g s.bef (i - (s.row.length - a)) else 0)) = (s.taps.getD i 0 + (chg p k (s.row.length - a) s.bef).getD i 0) % (p : Int) - (s.taps.getD i 0 + (if i < s.row.length - a - 1 then 0 else if i = s.row.length - a - 1 then k else if i < s.row.length - a + s.bef.length then - k * BM.g s.bef (i - (s.row.length - a)) else 0)) by omega] at this
        · have e : BM.g ts i = 0 := made_g2 (by omega)
          have hW : s.taps.length ≤ W ∧ s.row.length + 1 - s.taps.length ≤ W := ⟨by simp only [W]; omega, by simp only [W]; omega⟩
          rw [e, if_neg (by omega), if_neg (by omega), if_neg (by omega), if_neg (by omega)]
          exact ⟨0, by simp⟩
      by_cases hgt : s.taps.length < ts.length
      · refine ⟨{ s with row := s.row ++ [x], taps := ts, bef := s.taps, pl := s.row.length, off := o }, ?_, ⟨I.sp, row', nts, I.tp, ?_, ?_, .inr ⟨s.row.length, rfl, ?_, I.le, Fol_congr rc I.fo, ?_, op, o1, ?_⟩⟩, rfl⟩
        · unfold stepF
          rw [if_pos ⟨by rw [I.sp]; exact p0, by omega⟩, ho, Option.bind_some, if_neg hz]
          show (newF s o).map _ = _
          rw [hnew, Option.map_some, if_pos hgt]
        · show ts.length ≤ (s.row ++ [x]).length
          have := I.le
          rw [lts, rl]; simp only [W]; omega
        · show BM.Fol p (BM.g (s.row ++ [x])) (BM.g ts) ts.length (s.row ++ [x]).length
          rw [lts, rl]; exact fts
        · show s.row.length < (s.row ++ [x]).length; omega
        · show (p : Int) ∣ (BM.g (s.row ++ [x]) s.row.length - BM.dot (BM.g s.taps) (BM.g (s.row ++ [x])) s.taps.length s.row.length) - o
          rw [← dx, g_app2]
          exact od
        · show ts.length + s.taps.length = s.row.length + 1
          rw [lts] at hgt ⊢
          simp only [W] at hgt ⊢
          omega
      · have eW : ts.length = s.taps.length := by rw [lts] at hgt ⊢; simp only [W] at hgt ⊢; omega
        refine ⟨{ s with row := s.row ++ [x], taps := ts }, ?_, ⟨I.sp, row', nts, I.bf, ?_, ?_, .inr ⟨a, c1, ?_, c3, c4', c5', c6, c7, ?_⟩⟩, rfl⟩
        · unfold stepF
          rw [if_pos ⟨by rw [I.sp]; exact p0, by omega⟩, ho, Option.bind_some, if_neg hz]
          show (newF s o).map _ = _
          rw [hnew, Option.map_some, if_neg hgt]
        · show ts.length ≤ (s.row ++ [x]).length
          have := I.le
          omega
        · show BM.Fol p (BM.g (s.row ++ [x])) (BM.g ts) ts.length (s.row ++ [x]).length
          rw [rl, lts]; exact fts
        · show a < (s.row ++ [x]).length; omega
        · show ts.length + s.bef.length = a + 1; omega
theorem Inv.run {p : Nat} (hp : BM.isP p) : ∀ (ns : List Int) (s : FS), Inv p s → s.row.length + ns.length < 900 → Nm p ns → ∃ s', runF s ns = some s' ∧ Inv p s' ∧ s'.row = s.row ++ ns
  | [], s, I, _, _ => ⟨s, rfl, I, by simp⟩
  | n :: ns, s, I, hl, hn => by
    obtain ⟨s1, h1, I1, r1⟩ := I.step hp (by simp at hl; omega) (hn n List.mem_cons_self)
    obtain ⟨s2, h2, I2, r2⟩ := Inv.run hp ns s1 I1 (by rw [r1]; simp at hl ⊢; omega) fun y hy => hn y (List.mem_cons_of_mem _ hy)
    refine ⟨s2, ?_, I2, by rw [r2, r1]; simp⟩
    simp only [runF, h1, Option.bind_some, h2]
theorem Inv.lens {p : Nat} (hp : BM.isP p) : ∀ (ns : List Int) (s : FS), Inv p s → s.row.length + ns.length < 900 → Nm p ns → ∃ r, lensF s ns = some r ∧ r.length = ns.length ∧ ∀ i, i < ns.length → ∃ si, Inv p si ∧ si.row = s.row ++ ns.take (i + 1) ∧ r.getD i 0 = (si.taps.length : Int)
  | [], s, I, _, _ => ⟨[], rfl, rfl, fun i hi => by simp at hi⟩
  | n :: ns, s, I, hl, hn => by
    obtain ⟨s1, h1, I1, r1⟩ := I.step hp (by simp at hl; omega) (hn n List.mem_cons_self)
    obtain ⟨r, h2, l2, g2⟩ := Inv.lens hp ns s1 I1 (by rw [r1]; simp at hl ⊢; omega) fun y hy => hn y (List.mem_cons_of_mem _ hy)
    refine ⟨(s1.taps.length : Int) :: r, by simp only [lensF, h1, Option.bind_some, h2, Option.map_some], by simp [l2], fun i hi => ?_⟩
    cases i with
    | zero => exact ⟨s1, I1, by rw [r1]; simp, rfl⟩
    | succ i =>
      obtain ⟨si, I2, r2, e2⟩ := g2 i (by simpa using hi)
      exact ⟨si, I2, by rw [r2, r1]; simp, by simpa using e2⟩
end LR
namespace LR
open PySem LW
open L2 (atI ixN)
def E_least_register (p row finder other at_ s_ : L) : REnv := [p, row, finder, other, at_, s_]
def t_least_register_1 : DenS := (dSet 2 (dCallP 2 f_finder_of (dCons (gVar 0) (dCons (gVar 1) dNil))))
def t_least_register_2 : DenS := (dAsg (den1 (gAttr "before") (gVar 2)) (gTupT 3 (gConsT (gNameT 3) (gConsT (gNameT 4) (gConsT (gNameT 5) gNilT)))))
def t_least_register_3 : DenS := (dRet (dTup (dCons (den1 gList (den1 (gAttr "taps") (gVar 2))) (dCons (den1 gList (gVar 3)) (dCons (gVar 4) dNil)))))
def d_least_register : DenS := (dSeq t_least_register_1
  (dSeq t_least_register_2
  t_least_register_3))
def f_least_register : List T → Option L := bodyP 2 6 d_least_register
def E_are_taps (p value : L) : REnv := [p, value]
def t_are_taps_1 : DenS := (dRet (dAndV (dCallP 3 f_are_between (dCons (gVar 1) (dCons (gC (.int 0)) (dCons (den2 gSub (gVar 0) (gC (.int 1))) dNil)))) (den2 (gB gLe) (den1 gLen (gVar 1)) (gC (.int 40)))))
def d_are_taps : DenS := t_are_taps_1
def f_are_taps : List T → Option L := bodyP 2 2 d_are_taps
def E_shows_least_register (p row taps other at_ : L) : REnv := [p, row, taps, other, at_]
def b_shows_least_register_1 : DenT := (dOr (dNot (dTru (dCallP 2 f_are_taps (dCons (gVar 0) (dCons (gVar 2) dNil))))) (dOr (dNot (dTru (dCallP 2 f_are_taps (dCons (gVar 0) (dCons (gVar 3) dNil))))) (dNot (dTru (dCallP 3 f_is_between (dCons (gVar 4) (dCons (den1 gNeg (gC (.int 1))) (dCons (den2 gSub (den1 gLen (gVar 1)) (gC (.int 1))) dNil))))))))
def t_shows_least_register_1 : DenS := (dRet (gC (.bl false)))
def t_shows_least_register_2 : DenS := (dIfS b_shows_least_register_1 t_shows_least_register_1 dNx)
def b_shows_least_register_2 : DenT := (dBl (den2 (gB gLt) (gVar 4) (gC (.int 0))))
def t_shows_least_register_3 : DenS := (dRet (dAndV (den2 (gB gEq) (gVar 2) (dLst dNil)) (dAndV (den2 (gB gEq) (gVar 3) (dLst dNil)) (dNotV (den1 gAny2 (gVar 1))))))
def t_shows_least_register_4 : DenS := (dIfS b_shows_least_register_2 t_shows_least_register_3 dNx)
def b_shows_least_register_3 : DenT := (dOr (dNot (dTru (dCallP 3 f_is_row_of (dCons (gVar 0) (dCons (gVar 2) (dCons (gVar 1) dNil)))))) (dOr (dBl (den2 (gB gGt) (den1 gLen (gVar 3)) (gVar 4))) (dBl (den2 (gB gNe) (den2 gSub (den2 gAdd (gVar 4) (gC (.int 1))) (den1 gLen (gVar 3))) (den1 gLen (gVar 2))))))
def t_shows_least_register_5 : DenS := (dRet (gC (.bl false)))
def t_shows_least_register_6 : DenS := (dIfS b_shows_least_register_3 t_shows_least_register_5 dNx)
def t_shows_least_register_7 : DenS := (dRet (dAndV (dCallP 3 f_is_row_of (dCons (gVar 0) (dCons (gVar 3) (dCons (dSl (gVar 1) dNone (dSome (gVar 4))) dNil)))) (dNotV (dCallP 3 f_is_row_of (dCons (gVar 0) (dCons (gVar 3) (dCons (dSl (gVar 1) dNone (dSome (den2 gAdd (gVar 4) (gC (.int 1))))) dNil)))))))
def d_shows_least_register : DenS := (dSeq t_shows_least_register_2
  (dSeq t_shows_least_register_4
  (dSeq t_shows_least_register_6
  t_shows_least_register_7)))
def f_shows_least_register : List T → Option L := bodyP 5 5 d_shows_least_register
def E_is_only (p row : L) : REnv := [p, row]
def t_is_only_1 : DenS := (dRet (den2 (gB gLe) (den2 gMul (gC (.int 2)) (den1 gLen (den1 (gAttr "taps") (dCallP 2 f_finder_of (dCons (gVar 0) (dCons (gVar 1) dNil)))))) (den1 gLen (gVar 1))))
def d_is_only : DenS := t_is_only_1
def f_is_only : List T → Option L := bodyP 2 2 d_is_only
theorem ev_whole_i (i : Int) : f_is_whole [.int i] = some (.t (.bl true)) := rfl
theorem ev_whole_n : f_is_whole [.non] = some (.t (.bl false)) := rfl
theorem ev_whole_l (xs : List T) : f_is_whole [.lst xs] = some (.t (.bl false)) := rfl
theorem dAndV_t {d d' : Den} {ρ ρ1 : REnv} {r : Option (L × REnv)} (h : d ρ = some (.t (.bl true), ρ1)) (h2 : d' ρ1 = r) : dAndV d d' ρ = r := by simp only [dAndV, h, Option.bind_some, L.asBl, if_true, h2]
theorem dAndV_f {d d' : Den} {ρ ρ1 : REnv} (h : d ρ = some (.t (.bl false), ρ1)) : dAndV d d' ρ = some (.t (.bl false), ρ1) := by simp [dAndV, h, L.asBl]
theorem dAndV_b {d d' : Den} {ρ ρ1 ρ2 : REnv} {a b : Bool} (h : d ρ = some (.t (.bl a), ρ1)) (h2 : d' ρ1 = some (.t (.bl b), ρ2)) (e : ρ2 = ρ1) : dAndV d d' ρ = some (.t (.bl (a && b)), ρ1) := by
  subst e
  cases a with
  | true => exact dAndV_t h h2
  | false => exact dAndV_f h
theorem dNotV_b {d : Den} {ρ ρ1 : REnv} {a : Bool} (h : d ρ = some (.t (.bl a), ρ1)) : dNotV d ρ = some (.t (.bl (!a)), ρ1) := by simp only [dNotV, h, Option.bind_some, L.asBl, Option.map_some]
theorem dOr_b {d d' : DenT} {ρ ρ1 ρ2 : REnv} {a b : Bool} (h : d ρ = some (a, ρ1)) (h2 : d' ρ1 = some (b, ρ2)) (e : ρ2 = ρ1) : dOr d d' ρ = some (a || b, ρ1) := by
  subst e
  cases a <;> simp [dOr, h, h2]
theorem dOr_t {d d' : DenT} {ρ ρ1 : REnv} (h : d ρ = some (true, ρ1)) : dOr d d' ρ = some (true, ρ1) := by simp [dOr, h]
theorem denC_le {d1 d2 d3 : Den} {ρ : REnv} {a i b : Int} (h1 : d1 ρ = some (.t (.int a), ρ)) (h2 : d2 ρ = some (.t (.int i), ρ)) (h3 : d3 ρ = some (.t (.int b), ρ)) : denC gLe gLe d1 d2 d3 ρ = some (.t (.bl (decide (a ≤ i) && decide (i ≤ b))), ρ) := by
  simp only [denC, h1, h2, h3, Option.bind_some, gLe_e, Option.map_some]
  cases decide (a ≤ i) <;> rfl
theorem ev_between_i (i a b : Int) : f_is_between [.int i, .int a, .int b] = some (.t (.bl (decide (a ≤ i) && decide (i ≤ b)))) := by
  let E := E_is_between (.t (.int i)) (.t (.int a)) (.t (.int b))
  have h : t_is_between_1 E = some (.ret (.t (.bl (decide (a ≤ i) && decide (i ≤ b)))), E) :=
    dRet_eq (dAndV_t (ρ1 := E) (dCallP_eq (ts := [.int i]) (ρ1 := E) rfl rfl (ev_whole_i i) rfl) (denC_le (ρ := E) (d1 := gVar 1) (d2 := gVar 0) (d3 := gVar 2) rfl rfl rfl))
  exact bodyP_t (n := 3) (m := 3) (d := d_is_between) rfl h
theorem ev_between_n (a b : Int) : f_is_between [.non, .int a, .int b] = some (.t (.bl false)) := rfl
theorem ev_between_l (xs : List T) (a b : Int) : f_is_between [.lst xs, .int a, .int b] = some (.t (.bl false)) := rfl
theorem ev_arebt_n (a b : Int) : f_are_between [.non, .int a, .int b] = some (.t (.bl false)) := rfl
theorem ev_arebt_t (xs : List T) (a b : Int) : f_are_between [.tup xs, .int a, .int b] = some (.t (.bl false)) := rfl
theorem ev_arebt {l : List Int} (a b : Int) (hz : l.length ≤ 1000) : f_are_between [.lst (ii l), .int a, .int b] = some (.t (.bl (l.all fun x => decide (a ≤ x) && decide (x ≤ b)))) := by
  let E := E_are_between (.t (.lst (ii l))) (.t (.int a)) (.t (.int b)) .un
  have hc : c_are_between_1 E = some (.own (.lst ((l.map fun x => decide (a ≤ x) && decide (x ≤ b)).map T.bl)), E) := by
    unfold c_are_between_1
    rw [List.map_map]
    refine compD_eq (src := iSeq (gVar 0)) (ρ1 := E) (ho := none) (xs := l.map T.int) rfl (compL_m (fun x : Int => T.int x) _ l fun x hx => ?_) (by rw [List.length_map]; exact Nat.le_trans hz (by decide))
    let E' := E_are_between (.t (.lst (ii l))) (.t (.int a)) (.t (.int b)) (.t (.int x))
    exact ⟨E', rfl, .t (.bl (decide (a ≤ x) && decide (x ≤ b))), E', dCallP_eq (ts := [.int x, .int a, .int b]) rfl rfl (ev_between_i x a b) rfl, rfl, rfl⟩
  have hg := gAll_n E (l.map fun x => decide (a ≤ x) && decide (x ≤ b))
  rw [List.all_map] at hg
  have h : t_are_between_1 E = some (.ret (.t (.bl (l.all fun x => decide (a ≤ x) && decide (x ≤ b)))), E) :=
    dRet_eq (dAndV_t (ρ1 := E) rfl (den1_eq hc hg))
  exact bodyP_t (n := 3) (m := 4) (d := d_are_between) rfl h
/-! ### taps, the least register as told -/
def tapsB (p : Int) (l : List Int) : Bool := (l.all fun x => decide (0 ≤ x) && decide (x ≤ p - 1)) && decide (l.length ≤ 40)
theorem ev_are_taps {p : Int} {l : List Int} (hz : l.length ≤ 1000) : f_are_taps [.int p, .lst (ii l)] = some (.t (.bl (tapsB p l))) := by
  let E := E_are_taps (.t (.int p)) (.t (.lst (ii l)))
  have c : dCallP 3 f_are_between (dCons (gVar 1) (dCons (gC (.int 0)) (dCons (den2 gSub (gVar 0) (gC (.int 1))) dNil))) E = some (.t (.bl (l.all fun x => decide (0 ≤ x) && decide (x ≤ p - 1))), E) :=
    dCallP_eq (ts := [.lst (ii l), .int 0, .int (p - 1)]) rfl rfl (ev_arebt 0 (p - 1) hz) rfl
  have n : den2 (gB gLe) (den1 gLen (gVar 1)) (gC (.int 40)) E = some (.t (.bl (decide (l.length ≤ 40))), E) := by
    have := den2_eq (g := gB gLe) (den1_eq (d := gVar 1) (ρ := E) (ρ1 := E) (l1 := .t (.lst (ii l))) rfl (gLen_l E l)) (d2 := gC (.int 40)) (l2 := .t (.int 40)) (ρ2 := E) rfl (l := .t (.bl (decide ((l.length : Int) ≤ 40)))) rfl
    rw [show decide ((l.length : Int) ≤ 40) = decide (l.length ≤ 40) from decide_eq_decide.mpr (by omega)] at this
    exact this
  have h : t_are_taps_1 E = some (.ret (.t (.bl (tapsB p l))), E) := dRet_eq (dAndV_b c n rfl)
  exact bodyP_t (n := 2) (m := 2) (d := d_are_taps) rfl h
theorem ev_are_taps_n {p : Int} : f_are_taps [.int p, .non] = some (.t (.bl false)) := rfl
theorem ev_are_taps_t {p : Int} (xs : List T) : f_are_taps [.int p, .tup xs] = some (.t (.bl false)) := rfl
def finT (s : FS) : T := .tup [.lst (ii s.taps), .lst (ii s.bef), .int s.pl]
theorem ev_finder {p : Int} {row : List Int} {s : FS} (h : runF (startF p) row = some s) : f_finder_of [.int p, .lst (ii row)] = some (.t s.tree) := by
  show (intsT (ii row)).bind _ = _
  rw [intsT_map, Option.bind_some, h, Option.map_some]
theorem ev_least {p : Int} {row : List Int} {s : FS} (h : runF (startF p) row = some s) : f_least_register [.int p, .lst (ii row)] = some (.t (finT s)) := by
  let E (f o a u : L) := E_least_register (.t (.int p)) (.t (.lst (ii row))) f o a u
  let F : L := .t s.tree
  have s1 : t_least_register_1 (E .un .un .un .un) = some (.nx, E F .un .un .un) :=
    dSet_t (i := 2) (dCallP_eq (n := 2) (f := f_finder_of) (da := dCons (gVar 0) (dCons (gVar 1) dNil)) (ts := [.int p, .lst (ii row)]) (ρ := E .un .un .un .un) (ρ1 := E .un .un .un .un) rfl rfl (ev_finder h) rfl) (show 2 < 6 by decide)
  have s2 : t_least_register_2 (E F .un .un .un) = some (.nx, E F (.t (.lst (ii s.bef))) (.t (.int s.pl)) (.t (.int s.off))) :=
    dAsg_eq (den1_eq (d := gVar 2) (ρ := E F .un .un .un) (l1 := F) rfl at_before) rfl rfl
  let R := E F (.t (.lst (ii s.bef))) (.t (.int s.pl)) (.t (.int s.off))
  have a1 : den1 gList (den1 (gAttr "taps") (gVar 2)) R = some (.own (.lst (ii s.taps)), R) := den1_eq (den1_eq (d := gVar 2) (ρ := R) (l1 := F) rfl at_taps) rfl
  have s3 : t_least_register_3 R = some (.ret (.t (finT s)), R) := dRet_eq (dTup_eq (dCons_eq a1 rfl (dCons_eq (l := .own (.lst (ii s.bef))) (ρ1 := R) rfl rfl (dCons_eq (l := .t (.int s.pl)) (ρ1 := R) rfl rfl rfl))) (show (3 : Nat) ≤ line by decide))
  have hd : d_least_register (E .un .un .un .un) = some (.ret (.t (finT s)), R) := by
    unfold d_least_register
    rw [dSeq_nx s1, dSeq_nx s2]
    exact s3
  exact bodyP_t (n := 2) (m := 6) (d := d_least_register) rfl hd
theorem ev_only {p : Int} {row : List Int} {s : FS} (h : runF (startF p) row = some s) : f_is_only [.int p, .lst (ii row)] = some (.t (.bl (decide (2 * s.taps.length ≤ row.length)))) := by
  let E := E_is_only (.t (.int p)) (.t (.lst (ii row)))
  have c : dCallP 2 f_finder_of (dCons (gVar 0) (dCons (gVar 1) dNil)) E = some (.t s.tree, E) := dCallP_eq (ts := [.int p, .lst (ii row)]) rfl rfl (ev_finder h) rfl
  have n := den1_eq (g := gLen) (den1_eq c at_taps) (gLen_l E s.taps)
  have m := den2_eq (d1 := gC (.int 2)) (ρ := E) (ρ1 := E) (l1 := .t (.int 2)) rfl n (gMul_e E (mulOk_small (by decide) (by decide)))
  have l := den2_eq (g := gB gLe) m (den1_eq (d := gVar 1) (l1 := .t (.lst (ii row))) (ρ1 := E) rfl (gLen_l E row)) (l := .t (.bl (decide (2 * (s.taps.length : Int) ≤ row.length)))) rfl
  rw [show decide (2 * (s.taps.length : Int) ≤ row.length) = decide (2 * s.taps.length ≤ row.length) from decide_eq_decide.mpr (by omega)] at l
  have h : t_is_only_1 E = some (.ret (.t (.bl (decide (2 * s.taps.length ≤ row.length)))), E) := dRet_eq l
  exact bodyP_t (n := 2) (m := 2) (d := d_is_only) rfl h
/-! ### the judge of papers -/
def showsB (p : Int) (row taps other : List Int) (at_ : Int) : Bool :=
  if !tapsB p taps || (!tapsB p other || !(decide (-1 ≤ at_) && decide (at_ ≤ row.length - 1))) then false
  else if at_ < 0 then decide (taps = []) && (decide (other = []) && !row.any fun x => x != 0)
  else if !isRow p taps row || (decide (at_ < other.length) || !decide (at_ + 1 - other.length = taps.length)) then false
  else isRow p other (row.take at_.toNat) && !isRow p other (row.take (at_ + 1).toNat)
section
variable {p : Int} {row taps other : List Int} {a : Int}
def ES (p : Int) (row : List Int) (x y z : T) : REnv := E_shows_least_register (.t (.int p)) (.t (.lst (ii row))) (.t x) (.t y) (.t z)
theorem sh_false {x y z : T} (h : b_shows_least_register_1 (ES p row x y z) = some (true, ES p row x y z)) : f_shows_least_register [.int p, .lst (ii row), x, y, z] = some (.t (.bl false)) := by
  have s : d_shows_least_register (ES p row x y z) = some (.ret (.t (.bl false)), ES p row x y z) := by
    unfold d_shows_least_register
    exact dSeq_ret ((dIfS_t (c := b_shows_least_register_1) (d := t_shows_least_register_1) (d' := dNx) h).trans rfl)
  exact bodyP_t (n := 5) (m := 5) (d := d_shows_least_register) rfl s
theorem c_taps {x y z v : T} {b : Bool} {d : Den} (hd : d (ES p row x y z) = some (.t v, ES p row x y z)) (h : f_are_taps [.int p, v] = some (.t (.bl b))) :
    dNot (dTru (dCallP 2 f_are_taps (dCons (gVar 0) (dCons d dNil)))) (ES p row x y z) = some (!b, ES p row x y z) :=
  dNot_t (dTru_b (dCallP_eq (ts := [.int p, v]) (dCons_eq (l := .t (.int p)) (ρ1 := ES p row x y z) rfl rfl (dCons_eq hd rfl rfl)) rfl h rfl))
theorem c_betw {x y z : T} {b : Bool} (h : f_is_between [z, .int (-1), .int ((row.length : Int) - 1)] = some (.t (.bl b))) :
    dNot (dTru (dCallP 3 f_is_between (dCons (gVar 4) (dCons (den1 gNeg (gC (.int 1))) (dCons (den2 gSub (den1 gLen (gVar 1)) (gC (.int 1))) dNil))))) (ES p row x y z) = some (!b, ES p row x y z) := by
  have l := den1_eq (g := gLen) (d := gVar 1) (ρ := ES p row x y z) (ρ1 := ES p row x y z) (l1 := .t (.lst (ii row))) rfl (gLen_l _ row)
  exact dNot_t (dTru_b (dCallP_eq (ts := [z, .int (-1), .int ((row.length : Int) - 1)]) (dCons_eq (l := .t z) (ρ1 := ES p row x y z) rfl rfl (dCons_eq (l := .t (.int (-1))) (ρ1 := ES p row x y z) rfl rfl (dCons_eq (den2_eq (g := gSub) l (d2 := gC (.int 1)) (l2 := .t (.int 1)) (ρ2 := ES p row x y z) rfl rfl) rfl rfl))) rfl h rfl))
theorem sh_x {x y z : T} (h : f_are_taps [.int p, x] = some (.t (.bl false))) : f_shows_least_register [.int p, .lst (ii row), x, y, z] = some (.t (.bl false)) :=
  sh_false (dOr_t (c_taps (d := gVar 2) rfl h))
theorem sh_y {x y z : T} {b : Bool} (h : f_are_taps [.int p, x] = some (.t (.bl b))) (h2 : f_are_taps [.int p, y] = some (.t (.bl false))) : f_shows_least_register [.int p, .lst (ii row), x, y, z] = some (.t (.bl false)) := by
  refine sh_false ?_
  have := dOr_b (c_taps (x := x) (y := y) (z := z) (row := row) (d := gVar 2) rfl h) (dOr_t (d' := dNot (dTru (dCallP 3 f_is_between (dCons (gVar 4) (dCons (den1 gNeg (gC (.int 1))) (dCons (den2 gSub (den1 gLen (gVar 1)) (gC (.int 1))) dNil)))))) (c_taps (d := gVar 3) rfl h2)) rfl
  rw [show (!b || true) = true from by cases b <;> rfl] at this
  exact this
theorem sh_z {x y z : T} {b b2 : Bool} (h : f_are_taps [.int p, x] = some (.t (.bl b))) (h2 : f_are_taps [.int p, y] = some (.t (.bl b2))) (h3 : f_is_between [z, .int (-1), .int ((row.length : Int) - 1)] = some (.t (.bl false))) : f_shows_least_register [.int p, .lst (ii row), x, y, z] = some (.t (.bl false)) := by
  refine sh_false ?_
  have := dOr_b (c_taps (x := x) (y := y) (z := z) (row := row) (d := gVar 2) rfl h) (dOr_b (c_taps (d := gVar 3) rfl h2) (c_betw h3) rfl) rfl
  rw [show (!b || (!b2 || !false)) = true from by cases b <;> cases b2 <;> rfl] at this
  exact this
theorem gEq_lo (ρ : REnv) (a b : List Int) : gB gEq ρ (.t (.lst (ii a))) (.own (.lst (ii b))) = some (.t (.bl (decide (a = b)))) := by simp only [gB, gEq, L.view, eqOk_lst, if_true, eqv_lst, Option.map_some]
theorem gAny_l (ρ : REnv) (l : List Int) : gAny2 ρ (.t (.lst (ii l))) = some (.t (.bl (l.any fun x => x != 0))) := by
  cases l with
  | nil => rfl
  | cons a l =>
    have h1 : gAny ρ (.t (.lst (ii (a :: l)))) = none := rfl
    have h2 : asInts (ii (a :: l)) = some (a :: l) := by
      have := asInts_f (fun x : Int => x) (a :: l)
      rwa [List.map_id'] at this
    unfold gAny2
    rw [h1]
    simp only [L.lview, h2, Option.bind_some, Option.map_some]
theorem tapsB_sm {l : List Int} (h : tapsB p l = true) (hp : p ≤ 7) : Sm l ∧ l.length ≤ 40 := by
  unfold tapsB at h
  rw [Bool.and_eq_true, List.all_eq_true] at h
  refine ⟨fun x hx => ?_, of_decide_eq_true h.2⟩
  have := h.1 x hx
  rw [Bool.and_eq_true] at this
  have h1 := of_decide_eq_true this.1
  have h2 := of_decide_eq_true this.2
  omega
theorem ev_shows (hp : 0 < p) (hp7 : p ≤ 7) (hr : row.length ≤ 900) (h1 : taps.length ≤ 1000) (h2 : other.length ≤ 1000) :
    f_shows_least_register [.int p, .lst (ii row), .lst (ii taps), .lst (ii other), .int a] = some (.t (.bl (showsB p row taps other a))) := by
  let E := ES p row (.lst (ii taps)) (.lst (ii other)) (.int a)
  have b1 : b_shows_least_register_1 E = some (!tapsB p taps || (!tapsB p other || !(decide (-1 ≤ a) && decide (a ≤ row.length - 1))), E) :=
    dOr_b (c_taps (d := gVar 2) rfl (ev_are_taps h1)) (dOr_b (c_taps (d := gVar 3) rfl (ev_are_taps h2)) (c_betw (ev_between_i a (-1) ((row.length : Int) - 1))) rfl) rfl
  unfold showsB
  cases hb : (!tapsB p taps || (!tapsB p other || !(decide (-1 ≤ a) && decide (a ≤ row.length - 1)))) with
  | true =>
    rw [if_pos rfl]
    rw [hb] at b1
    exact sh_false b1
  | false =>
    rw [if_neg Bool.false_ne_true]
    rw [hb] at b1
    rw [Bool.or_eq_false_iff, Bool.or_eq_false_iff] at hb
    obtain ⟨t1, t2, t3⟩ := hb
    have t1 : tapsB p taps = true := by simpa using t1
    have t2 : tapsB p other = true := by simpa using t2
    obtain ⟨m1, l1⟩ := tapsB_sm t1 hp7
    obtain ⟨m2, l2⟩ := tapsB_sm t2 hp7
    have s1 : t_shows_least_register_2 E = some (.nx, E) := (dIfS_f (c := b_shows_least_register_1) (d := t_shows_least_register_1) (d' := dNx) b1).trans rfl
    have b2 : b_shows_least_register_2 E = some (decide (a < 0), E) := rfl
    by_cases ha : a < 0
    · rw [if_pos ha]
      rw [decide_eq_true ha] at b2
      have e1 : den2 (gB gEq) (gVar 2) (dLst dNil) E = some (.t (.bl (decide (taps = []))), E) := den2_eq (l1 := .t (.lst (ii taps))) (ρ1 := E) (l2 := .own (.lst (ii []))) (ρ2 := E) rfl (dLst_eq rfl (by decide)) (gEq_lo E taps [])
      have e2 : den2 (gB gEq) (gVar 3) (dLst dNil) E = some (.t (.bl (decide (other = []))), E) := den2_eq (l1 := .t (.lst (ii other))) (ρ1 := E) (l2 := .own (.lst (ii []))) (ρ2 := E) rfl (dLst_eq rfl (by decide)) (gEq_lo E other [])
      have e3 : dNotV (den1 gAny2 (gVar 1)) E = some (.t (.bl (!row.any fun x => x != 0)), E) := dNotV_b (den1_eq (l1 := .t (.lst (ii row))) (ρ1 := E) rfl (gAny_l E row))
      have s2 : t_shows_least_register_4 E = some (.ret (.t (.bl (decide (taps = []) && (decide (other = []) && !row.any fun x => x != 0)))), E) :=
        (dIfS_t (c := b_shows_least_register_2) (d := t_shows_least_register_3) (d' := dNx) b2).trans (dRet_eq (dAndV_b e1 (dAndV_b e2 e3 rfl) rfl))
      have hd : d_shows_least_register E = some (.ret (.t (.bl (decide (taps = []) && (decide (other = []) && !row.any fun x => x != 0)))), E) := by
        unfold d_shows_least_register
        rw [dSeq_nx s1]
        exact dSeq_ret s2
      exact bodyP_t (n := 5) (m := 5) (d := d_shows_least_register) rfl hd
    · rw [if_neg ha]
      rw [decide_eq_false ha] at b2
      have s2 : t_shows_least_register_4 E = some (.nx, E) := (dIfS_f (c := b_shows_least_register_2) (d := t_shows_least_register_3) (d' := dNx) b2).trans rfl
      obtain ⟨m, rfl⟩ : ∃ m : Nat, a = m := ⟨a.toNat, by omega⟩
      have c1 : dNot (dTru (dCallP 3 f_is_row_of (dCons (gVar 0) (dCons (gVar 2) (dCons (gVar 1) dNil))))) E = some (!isRow p taps row, E) :=
        dNot_t (dTru_b (dCallP_eq (ts := [.int p, .lst (ii taps), .lst (ii row)]) (ρ1 := E) rfl rfl (ev_is_row hp m1 (by omega) (by omega)) rfl))
      have lo := den1_eq (g := gLen) (d := gVar 3) (ρ := E) (ρ1 := E) (l1 := .t (.lst (ii other))) rfl (gLen_l E other)
      have lt := den1_eq (g := gLen) (d := gVar 2) (ρ := E) (ρ1 := E) (l1 := .t (.lst (ii taps))) rfl (gLen_l E taps)
      have c2 : dBl (den2 (gB gGt) (den1 gLen (gVar 3)) (gVar 4)) E = some (decide ((m : Int) < other.length), E) := dBl_eq (den2_eq (g := gB gGt) lo (d2 := gVar 4) (l2 := .t (.int (m : Nat))) (ρ2 := E) rfl (gGt_i E _ _))
      have c3 : dBl (den2 (gB gNe) (den2 gSub (den2 gAdd (gVar 4) (gC (.int 1))) (den1 gLen (gVar 3))) (den1 gLen (gVar 2))) E = some (!decide ((m : Int) + 1 - other.length = taps.length), E) := by
        have a1 : den2 gAdd (gVar 4) (gC (.int 1)) E = some (.t (.int ((m : Int) + 1)), E) := den2_eq (l1 := .t (.int (m : Nat))) (l2 := .t (.int 1)) (ρ1 := E) (ρ2 := E) rfl rfl rfl
        exact dBl_eq (den2_eq (g := gB gNe) (den2_eq (g := gSub) a1 lo (l := .t (.int ((m : Int) + 1 - other.length))) rfl) lt (gNe_i E _ _))
      have b3 : b_shows_least_register_3 E = some (!isRow p taps row || (decide ((m : Int) < other.length) || !decide ((m : Int) + 1 - other.length = taps.length)), E) := dOr_b c1 (dOr_b c2 c3 rfl) rfl
      cases hb3 : (!isRow p taps row || (decide ((m : Int) < other.length) || !decide ((m : Int) + 1 - other.length = taps.length))) with
      | true =>
        rw [if_pos rfl]
        rw [hb3] at b3
        have s3 : t_shows_least_register_6 E = some (.ret (.t (.bl false)), E) := (dIfS_t (c := b_shows_least_register_3) (d := t_shows_least_register_5) (d' := dNx) b3).trans rfl
        have hd : d_shows_least_register E = some (.ret (.t (.bl false)), E) := by
          unfold d_shows_least_register
          rw [dSeq_nx s1, dSeq_nx s2]
          exact dSeq_ret s3
        exact bodyP_t (n := 5) (m := 5) (d := d_shows_least_register) rfl hd
      | false =>
        rw [if_neg Bool.false_ne_true]
        rw [hb3] at b3
        have s3 : t_shows_least_register_6 E = some (.nx, E) := (dIfS_f (c := b_shows_least_register_3) (d := t_shows_least_register_5) (d' := dNx) b3).trans rfl
        have sl : ∀ (j : Nat) (d : Den), d E = some (.t (.int (j : Nat)), E) → dCallP 3 f_is_row_of (dCons (gVar 0) (dCons (gVar 3) (dCons (dSl (gVar 1) dNone (dSome d)) dNil))) E = some (.t (.bl (isRow p other (row.take j))), E) := fun j d hd => by
          have hs : dSl (gVar 1) dNone (dSome d) E = some (.own (.lst (ii (row.take j))), E) := by
            refine dSl_eq (l := .t (.lst (ii row))) (ρ1 := E) (ρ2 := E) rfl rfl (dSome_eq (i := ((j : Nat) : Int)) hd) ?_
            rw [gSl_l, cut_hi]
            simp only [ii, List.map_take]
          exact dCallP_eq (ts := [.int p, .lst (ii other), .lst (ii (row.take j))]) (dCons_eq (l := .t (.int p)) (ρ1 := E) rfl rfl (dCons_eq (l := .t (.lst (ii other))) (ρ1 := E) rfl rfl (dCons_eq hs rfl rfl))) rfl (ev_is_row hp m2 (by omega) (by rw [List.length_take]; omega)) rfl
        have a1 : den2 gAdd (gVar 4) (gC (.int 1)) E = some (.t (.int ((m + 1 : Nat) : Int)), E) := den2_eq (l1 := .t (.int (m : Nat))) (l2 := .t (.int 1)) (ρ1 := E) (ρ2 := E) rfl rfl rfl
        have s4 : t_shows_least_register_7 E = some (.ret (.t (.bl (isRow p other (row.take m) && !isRow p other (row.take (m + 1))))), E) := dRet_eq (dAndV_b (sl m (gVar 4) rfl) (dNotV_b (sl (m + 1) _ a1)) rfl)
        have hd : d_shows_least_register E = some (.ret (.t (.bl (isRow p other (row.take m) && !isRow p other (row.take (m + 1))))), E) := by
          unfold d_shows_least_register
          rw [dSeq_nx s1, dSeq_nx s2, dSeq_nx s3]
          exact s4
        rw [show ((m : Int)).toNat = m from rfl, show ((m : Int) + 1).toNat = m + 1 from rfl]
        exact bodyP_t (n := 5) (m := 5) (d := d_shows_least_register) rfl hd
end
end LR
namespace LK
open PySem PySem.Spec PyProof.Rows L2 LW
def topS (i : Nat) : Stmt := PySem.Challenge.pw_latewords_k59_least_registers.main.body.getD i (.Pass ⟨0, 0, 0, 0⟩)
section
variable {P : Program} {w : World} {K : PySem.W.Frag} {mg : Str → Option Value} {base : Heap} {fa : Nat → Addr} {k : Nat} {f : Addr} {fd : FuncData}
abbrev s_is_whole : Stmt := topS 1
theorem sc_is_whole : FnScope ["value"] ["value"] (defScope s_is_whole) := ⟨rfl, rfl, rfl, by decide +kernel, rfl, by decide +kernel, by decide +kernel⟩
def E_is_whole (value : L) : REnv := [value]
def t_is_whole_1 : DenS := (dRet (dAndV (den1 (gIsi "int") (gVar 0)) (dNotV (den1 (gIsi "bool") (gVar 0)))))
def d_is_whole : DenS := t_is_whole_1
def f_is_whole : List T → Option L := bodyP 1 1 d_is_whole
theorem ok_is_whole (F : Fun K "is_whole" "is_whole" s_is_whole f fd) (hmg : mg "is_whole" = some (.ref f)) (hb : Binds K fd ["value"] []) (m_bool : mg "bool" = none) (m_int : mg "int" = none) (m_isinstance : mg "isinstance" = none) : Fn P w K mg base fa (k + 1) "is_whole" 1 (pureF f_is_whole) :=
  fn_pure (as := []) (d := d_is_whole) F sc_is_whole hmg hb fun cdv A outer s H E hr => (SSs.one (SS.ret (SE.andV (SE.isi (by rfl) m_isinstance (by rfl) m_int (by decide +kernel) (by decide) (by rfl) (SE.v 0 (by rfl) (by rfl) (by rfl) (by rfl)) (by rfl)) (SE.one (SE.notV (SE.isi (by rfl) m_isinstance (by rfl) m_bool (by decide +kernel) (by decide) (by rfl) (SE.v 0 (by rfl) (by rfl) (by rfl) (by rfl)) (by rfl)))))))
abbrev s_is_between : Stmt := topS 2
theorem sc_is_between : FnScope ["value", "least", "most"] ["value", "least", "most"] (defScope s_is_between) := ⟨rfl, rfl, rfl, by decide +kernel, rfl, by decide +kernel, by decide +kernel⟩
def E_is_between (value least most : L) : REnv := [value, least, most]
def t_is_between_1 : DenS := (dRet (dAndV (dCallP 1 f_is_whole (dCons (gVar 0) dNil)) (denC gLe gLe (gVar 1) (gVar 0) (gVar 2))))
def d_is_between : DenS := t_is_between_1
def f_is_between : List T → Option L := bodyP 3 3 d_is_between
theorem ok_is_between (F : Fun K "is_between" "is_between" s_is_between f fd) (hmg : mg "is_between" = some (.ref f)) (hb : Binds K fd ["value", "least", "most"] []) (c_is_whole : Fn P w K mg base fa k "is_whole" 1 (pureF f_is_whole)) : Fn P w K mg base fa (k + 1) "is_between" 3 (pureF f_is_between) :=
  fn_pure (as := []) (d := d_is_between) F sc_is_between hmg hb fun cdv A outer s H E hr => (SSs.one (SS.ret (SE.andV (SE.callP c_is_whole hr (by rfl) (SA.cons (SE.v 0 (by rfl) (by rfl) (by rfl) (by rfl)) SA.nil (by rfl)) (by rfl) (by rfl) (by rfl)) (SE.one (SE.chain (SE.v 1 (by rfl) (by rfl) (by rfl) (by rfl)) (SE.v 0 (by rfl) (by rfl) (by rfl) (by rfl)) (SE.v 2 (by rfl) (by rfl) (by rfl) (by rfl)) (cmp_le) (cmp_le) (by rfl))))))
abbrev s_are_between : Stmt := topS 3
theorem sc_are_between : FnScope ["value", "least", "most", "number"] ["value", "least", "most"] (defScope s_are_between) := ⟨rfl, rfl, rfl, by decide +kernel, rfl, by decide +kernel, by decide +kernel⟩
def E_are_between (value least most number : L) : REnv := [value, least, most, number]
def c_are_between_1 : Den := (compD (iSeq (gVar 0)) [3] (gNameT 3) dYes (dCallP 3 f_is_between (dCons (gVar 3) (dCons (gVar 1) (dCons (gVar 2) dNil)))))
def t_are_between_1 : DenS := (dRet (dAndV (den1 (gIsi "list") (gVar 0)) (den1 gAll c_are_between_1)))
def d_are_between : DenS := t_are_between_1
def f_are_between : List T → Option L := bodyP 3 4 d_are_between
theorem ok_are_between (F : Fun K "are_between" "are_between" s_are_between f fd) (hmg : mg "are_between" = some (.ref f)) (hb : Binds K fd ["value", "least", "most"] []) (c_is_between : Fn P w K mg base fa k "is_between" 3 (pureF f_is_between)) (m_all : mg "all" = none) (m_isinstance : mg "isinstance" = none) (m_list : mg "list" = none) : Fn P w K mg base fa (k + 1) "are_between" 3 (pureF f_are_between) :=
  fn_pure (as := []) (d := d_are_between) F sc_are_between hmg hb fun cdv A outer s H E hr => (SSs.one (SS.ret (SE.andV (SE.isi (by rfl) m_isinstance (by rfl) m_list (by decide +kernel) (by decide) (by rfl) (SE.v 0 (by rfl) (by rfl) (by rfl) (by rfl)) (by rfl)) (SE.one (SE.all (by rfl) (by rfl) m_all (SE.lc (by rfl) (by rfl) sc_are_between.nd (SI.seq (SE.v 0 (by rfl) (by rfl) (by rfl) (by rfl))) (blkOk_by (own := [("number", 3)]) (N := ["value", "least", "most", "number"]) (sc := defScope s_are_between) (by decide +kernel)) (by decide) (fun _ _ _ _ _ => (SG.n (i := 3) sc_are_between.nd (by rfl) (by rfl) (by rfl))) (fun _ _ _ _ _ => STs.nil) (fun _ _ _ _ _ => (SE.callP c_is_between hr (by rfl) (SA.cons (SE.v 3 (by rfl) (by rfl) (by rfl) (by rfl)) (SA.cons (SE.v 1 (by rfl) (by rfl) (by rfl) (by rfl)) (SA.cons (SE.v 2 (by rfl) (by rfl) (by rfl) (by rfl)) SA.nil (by rfl)) (by rfl)) (by rfl)) (by rfl) (by rfl) (by rfl))) (fun _ => (by rfl))) (by rfl))))))
abbrev s_inverse_number : Stmt := topS 5
theorem sc_inverse_number : FnScope ["p", "k", "own"] ["p", "k"] (defScope s_inverse_number) := ⟨rfl, rfl, rfl, by decide +kernel, rfl, by decide +kernel, by decide +kernel⟩
def E_inverse_number (p k own : L) : REnv := [p, k, own]
def c_inverse_number_1 : Den := (compD (iRange2 (dCons (gC (.int 1)) (dCons (gVar 0) dNil))) [2] (gNameT 2) (dBl (den2 (gB gEq) (den2 gMod (den2 gMul (gVar 2) (gVar 1)) (gVar 0)) (gC (.int 1)))) (gVar 2))
def t_inverse_number_1 : DenS := (dRet (den2 gIx c_inverse_number_1 (gC (.int 0))))
def d_inverse_number : DenS := t_inverse_number_1
def f_inverse_number : List T → Option L := bodyP 2 3 d_inverse_number
theorem ok_inverse_number (F : Fun K "inverse_number" "inverse_number" s_inverse_number f fd) (hmg : mg "inverse_number" = some (.ref f)) (hb : Binds K fd ["p", "k"] []) (m_range : mg "range" = none) : Fn P w K mg base fa (k + 1) "inverse_number" 2 (pureF f_inverse_number) :=
  fn_pure (as := []) (d := d_inverse_number) F sc_inverse_number hmg hb fun cdv A outer s H E hr => (SSs.one (SS.ret (SE.ix (SE.lc (by rfl) (by rfl) sc_inverse_number.nd (SI.range2 (by rfl) m_range (SA.cons SE.int (SA.cons (SE.v 0 (by rfl) (by rfl) (by rfl) (by rfl)) SA.nil (by rfl)) (by rfl)) (by rfl) (by rfl)) (blkOk_by (own := [("own", 2)]) (N := ["p", "k", "own"]) (sc := defScope s_inverse_number) (by decide +kernel)) (by decide) (fun _ _ _ _ _ => (SG.n (i := 2) sc_inverse_number.nd (by rfl) (by rfl) (by rfl))) (fun _ _ _ _ _ => (STs.one (ST.cmp (SE.mod (SE.mul (SE.v 2 (by rfl) (by rfl) (by rfl) (by rfl)) (SE.v 1 (by rfl) (by rfl) (by rfl) (by rfl))) (SE.v 0 (by rfl) (by rfl) (by rfl) (by rfl))) SE.int (cmp_eq (room64 hr)) (by rfl)))) (fun _ _ _ _ _ => (SE.v 2 (by rfl) (by rfl) (by rfl) (by rfl))) (fun _ => (by rfl))) SE.int (fun _ _ => (by rfl)))))
abbrev s_next_number : Stmt := topS 8
theorem sc_next_number : FnScope ["p", "taps", "row", "j", "k"] ["p", "taps", "row"] (defScope s_next_number) := ⟨rfl, rfl, rfl, by decide +kernel, rfl, by decide +kernel, by decide +kernel⟩
def E_next_number (p taps row j k : L) : REnv := [p, taps, row, j, k]
def c_next_number_1 : Den := (compD (iEnumT (gVar 1)) [3, 4] (gTupT 2 (gConsT (gNameT 3) (gConsT (gNameT 4) gNilT))) dYes (den2 gMul (gVar 4) (den2 gIx (gVar 2) (den2 gSub (den2 gSub (den1 gLen (gVar 2)) (gC (.int 1))) (gVar 3)))))
def t_next_number_1 : DenS := (dRet (den2 gMod (den1 gSum c_next_number_1) (gVar 0)))
def d_next_number : DenS := t_next_number_1
def f_next_number : List T → Option L := bodyP 3 5 d_next_number
theorem ok_next_number (F : Fun K "next_number" "next_number" s_next_number f fd) (hmg : mg "next_number" = some (.ref f)) (hb : Binds K fd ["p", "taps", "row"] []) (m_enumerate : mg "enumerate" = none) (m_len : mg "len" = none) (m_sum : mg "sum" = none) : Fn P w K mg base fa (k + 1) "next_number" 3 (pureF f_next_number) :=
  fn_pure (as := []) (d := d_next_number) F sc_next_number hmg hb fun cdv A outer s H E hr => (SSs.one (SS.ret (SE.mod (SE.sum (by rfl) (by rfl) m_sum (SE.lc (by rfl) (by rfl) sc_next_number.nd (SI.enum (by rfl) m_enumerate (SE.v 1 (by rfl) (by rfl) (by rfl) (by rfl)) (by rfl) (by rfl)) (blkOk_by (own := [("j", 3), ("k", 4)]) (N := ["p", "taps", "row", "j", "k"]) (sc := defScope s_next_number) (by decide +kernel)) (by decide) (fun _ _ _ _ _ => (SG.tup (n := 2) (by rfl) (SGs.cons (SG.n (i := 3) sc_next_number.nd (by rfl) (by rfl) (by rfl)) (SGs.cons (SG.n (i := 4) sc_next_number.nd (by rfl) (by rfl) (by rfl)) SGs.nil (by rfl)) (by rfl)) (by rfl) (by rfl))) (fun _ _ _ _ _ => STs.nil) (fun _ _ _ _ _ => (SE.mul (SE.v 4 (by rfl) (by rfl) (by rfl) (by rfl)) (SE.ix (SE.v 2 (by rfl) (by rfl) (by rfl) (by rfl)) (SE.sub (SE.sub (SE.len (by rfl) m_len (SE.v 2 (by rfl) (by rfl) (by rfl) (by rfl)) (by rfl)) SE.int) (SE.v 3 (by rfl) (by rfl) (by rfl) (by rfl))) (fun _ _ => (by rfl))))) (fun _ => (by rfl))) (by rfl)) (SE.v 0 (by rfl) (by rfl) (by rfl) (by rfl)))))
abbrev s_register_row : Stmt := topS 9
theorem sc_register_row : FnScope ["p", "taps", "begun", "many", "row"] ["p", "taps", "begun", "many"] (defScope s_register_row) := ⟨rfl, rfl, rfl, by decide +kernel, rfl, by decide +kernel, by decide +kernel⟩
def E_register_row (p taps begun many row : L) : REnv := [p, taps, begun, many, row]
def t_register_row_1 : DenS := (dSet 4 (den1 gList (gVar 2)))
def b_register_row_1 : DenT := (dBl (den2 (gB gLt) (den1 gLen (gVar 4)) (gVar 3)))
def t_register_row_2 : DenS := (dDrop (dMeth 4 fAppend (dCons (dBor (dCallP 3 f_next_number (dCons (gVar 0) (dCons (gVar 1) (dCons (gVar 4) dNil))))) dNil)))
def l_register_row_1 : DenS := t_register_row_2
def t_register_row_3 : DenS := (whileL b_register_row_1 l_register_row_1 1000)
def t_register_row_4 : DenS := (dRet (dSl (gVar 4) dNone (dSome (gVar 3))))
def d_register_row : DenS := (dSeq t_register_row_1
  (dSeq t_register_row_3
  t_register_row_4))
def f_register_row : List T → Option L := bodyP 4 5 d_register_row
theorem ok_register_row (F : Fun K "register_row" "register_row" s_register_row f fd) (hmg : mg "register_row" = some (.ref f)) (hb : Binds K fd ["p", "taps", "begun", "many"] []) (c_next_number : Fn P w K mg base fa k "next_number" 3 (pureF f_next_number)) (m_len : mg "len" = none) (m_list : mg "list" = none) : Fn P w K mg base fa (k + 1) "register_row" 4 (pureF f_register_row) :=
  fn_pure (as := [4]) (d := d_register_row) F sc_register_row hmg hb fun cdv A outer s H E hr => (SSs.cons (SS.st (i := 4) sc_register_row.nd (by rfl) (by rfl) (SE.list1 (by rfl) m_list (SE.v 2 (by rfl) (by rfl) (by rfl) (by rfl)) (by rfl)) (by rfl) (by rfl))
      (SSs.cons (SS.while (n := 1000) PassesOwn.never (ST.cmp (SE.len (by rfl) m_len (SE.v 4 (by rfl) (by rfl) (by rfl) (by rfl)) (by rfl)) (SE.v 3 (by rfl) (by rfl) (by rfl) (by rfl)) (cmp_lt) (by rfl)) (SSs.one (SS.expr (SE.meth (i := 4) PySem.F.slot_list_append PySem.F.type_list_append mt_append me_append (by rfl) (vis_of (by rfl)) (by rfl) (by rfl) (SA.cons (SE.bor (SE.callP c_next_number hr (by rfl) (SA.cons (SE.v 0 (by rfl) (by rfl) (by rfl) (by rfl)) (SA.cons (SE.v 1 (by rfl) (by rfl) (by rfl) (by rfl)) (SA.cons (SE.v 4 (by rfl) (by rfl) (by rfl) (by rfl)) SA.nil (by rfl)) (by rfl)) (by rfl)) (by rfl) (by rfl) (by rfl))) SA.nil (by rfl)) (by rfl) (by rfl) (by rfl) (by rfl)) (by rfl))))
      (SSs.one (SS.ret (SE.sl (SE.v 4 (by rfl) (by rfl) (by rfl) (by rfl)) SO.none (SO.some (SE.v 3 (by rfl) (by rfl) (by rfl) (by rfl))))))))
abbrev s_is_row_of : Stmt := topS 10
theorem sc_is_row_of : FnScope ["p", "taps", "row", "at"] ["p", "taps", "row"] (defScope s_is_row_of) := ⟨rfl, rfl, rfl, by decide +kernel, rfl, by decide +kernel, by decide +kernel⟩
def E_is_row_of (p taps row at_ : L) : REnv := [p, taps, row, at_]
def c_is_row_of_1 : Den := (compD (iRange2 (dCons (den1 gLen (gVar 1)) (dCons (den1 gLen (gVar 2)) dNil))) [3] (gNameT 3) dYes (den2 (gB gEq) (dCallP 3 f_next_number (dCons (gVar 0) (dCons (gVar 1) (dCons (dSl (gVar 2) dNone (dSome (gVar 3))) dNil)))) (den2 gIx (gVar 2) (gVar 3))))
def t_is_row_of_1 : DenS := (dRet (den1 gAll c_is_row_of_1))
def d_is_row_of : DenS := t_is_row_of_1
def f_is_row_of : List T → Option L := bodyP 3 4 d_is_row_of
theorem ok_is_row_of (F : Fun K "is_row_of" "is_row_of" s_is_row_of f fd) (hmg : mg "is_row_of" = some (.ref f)) (hb : Binds K fd ["p", "taps", "row"] []) (c_next_number : Fn P w K mg base fa k "next_number" 3 (pureF f_next_number)) (m_all : mg "all" = none) (m_len : mg "len" = none) (m_range : mg "range" = none) : Fn P w K mg base fa (k + 1) "is_row_of" 3 (pureF f_is_row_of) :=
  fn_pure (as := []) (d := d_is_row_of) F sc_is_row_of hmg hb fun cdv A outer s H E hr => (SSs.one (SS.ret (SE.all (by rfl) (by rfl) m_all (SE.lc (by rfl) (by rfl) sc_is_row_of.nd (SI.range2 (by rfl) m_range (SA.cons (SE.len (by rfl) m_len (SE.v 1 (by rfl) (by rfl) (by rfl) (by rfl)) (by rfl)) (SA.cons (SE.len (by rfl) m_len (SE.v 2 (by rfl) (by rfl) (by rfl) (by rfl)) (by rfl)) SA.nil (by rfl)) (by rfl)) (by rfl) (by rfl)) (blkOk_by (own := [("at", 3)]) (N := ["p", "taps", "row", "at"]) (sc := defScope s_is_row_of) (by decide +kernel)) (by decide) (fun _ _ _ _ _ => (SG.n (i := 3) sc_is_row_of.nd (by rfl) (by rfl) (by rfl))) (fun _ _ _ _ _ => STs.nil) (fun _ _ _ _ _ => (SE.cmp (SE.callP c_next_number hr (by rfl) (SA.cons (SE.v 0 (by rfl) (by rfl) (by rfl) (by rfl)) (SA.cons (SE.v 1 (by rfl) (by rfl) (by rfl) (by rfl)) (SA.cons (SE.sl (SE.v 2 (by rfl) (by rfl) (by rfl) (by rfl)) SO.none (SO.some (SE.v 3 (by rfl) (by rfl) (by rfl) (by rfl)))) SA.nil (by rfl)) (by rfl)) (by rfl)) (by rfl) (by rfl) (by rfl)) (SE.ix (SE.v 2 (by rfl) (by rfl) (by rfl) (by rfl)) (SE.v 3 (by rfl) (by rfl) (by rfl) (by rfl)) (fun _ _ => (by rfl))) (cmp_eq (room64 hr)) (by rfl))) (fun _ => (by rfl))) (by rfl))))
abbrev s_Finder___init__ : Stmt := inClass (topS 11) 0
theorem sc_Finder___init__ : FnScope ["self", "p"] ["self", "p"] (defScope s_Finder___init__) := ⟨rfl, rfl, rfl, by decide +kernel, rfl, by decide +kernel, by decide +kernel⟩
abbrev s_Finder_made : Stmt := inClass (topS 11) 1
theorem sc_Finder_made : FnScope ["self", "off", "p", "taps", "at", "other_off", "ticks", "k", "change", "own", "many", "one", "other", "more"] ["self", "off"] (defScope s_Finder_made) := ⟨rfl, rfl, rfl, by decide +kernel, rfl, by decide +kernel, by decide +kernel⟩
def E_Finder_made (self off p taps at_ other_off ticks k change own many one other more_ : L) : REnv := [self, off, p, taps, at_, other_off, ticks, k, change, own, many, one, other, more_]
def t_Finder_made_1 : DenS := (dSet 2 (den1 (gAttr "p") (gVar 0)))
def t_Finder_made_2 : DenS := (dAsg (den1 (gAttr "before") (gVar 0)) (gTupT 3 (gConsT (gNameT 3) (gConsT (gNameT 4) (gConsT (gNameT 5) gNilT)))))
def t_Finder_made_3 : DenS := (dSet 6 (den2 gSub (den1 gLen (den1 (gAttr "row") (gVar 0))) (gVar 4)))
def t_Finder_made_4 : DenS := (dSet 7 (den2 gMod (den2 gMul (gVar 1) (dCallP 2 f_inverse_number (dCons (gVar 2) (dCons (gVar 5) dNil)))) (gVar 2)))
def c_Finder_made_1 : Den := (compD (iSeq (gVar 3)) [9] (gNameT 9) dYes (den2 gMod (den2 gMul (den2 gSub (gVar 2) (gVar 7)) (gVar 9)) (gVar 2)))
def t_Finder_made_5 : DenS := (dSet 8 (den2 gAdd (den2 gAdd (den2 gMul (dLst (dCons (gC (.int 0)) dNil)) (den2 gSub (gVar 6) (gC (.int 1)))) (dLst (dCons (dFrz 7) dNil))) c_Finder_made_1))
def t_Finder_made_6 : DenS := (dSet 10 (den2 gMax2 (den1 gLen (den1 (gAttr "taps") (gVar 0))) (den2 gSub (den2 gAdd (den1 gLen (den1 (gAttr "row") (gVar 0))) (gC (.int 1))) (den1 gLen (den1 (gAttr "taps") (gVar 0))))))
def t_Finder_made_7 : DenS := (dSet 11 (den2 gAdd (den1 (gAttr "taps") (gVar 0)) (den2 gMul (dLst (dCons (gC (.int 0)) dNil)) (den2 gSub (gVar 10) (den1 gLen (den1 (gAttr "taps") (gVar 0)))))))
def t_Finder_made_8 : DenS := (dSet 12 (den2 gAdd (gVar 8) (den2 gMul (dLst (dCons (gC (.int 0)) dNil)) (den2 gSub (gVar 10) (den1 gLen (gVar 8))))))
def c_Finder_made_2 : Den := (compD (iZipT (dFrz 11) (dFrz 12)) [9, 13] (gTupT 2 (gConsT (gNameT 9) (gConsT (gNameT 13) gNilT))) dYes (den2 gMod (den2 gAdd (gVar 9) (gVar 13)) (gVar 2)))
def t_Finder_made_9 : DenS := (dRet c_Finder_made_2)
def d_Finder_made : DenS := (dSeq t_Finder_made_1
  (dSeq t_Finder_made_2
  (dSeq t_Finder_made_3
  (dSeq t_Finder_made_4
  (dSeq t_Finder_made_5
  (dSeq t_Finder_made_6
  (dSeq t_Finder_made_7
  (dSeq t_Finder_made_8
  t_Finder_made_9))))))))
def f_Finder_made : List T → Option L := bodyP 2 14 d_Finder_made
theorem ok_Finder_made (F : Fun K "made" "Finder.made" s_Finder_made f fd) (c_inverse_number : Fn P w K mg base fa k "inverse_number" 2 (pureF f_inverse_number)) (m_len : mg "len" = none) (m_max : mg "max" = none) (m_zip : mg "zip" = none) : FnL P w K mg base fa (k + 1) f fd ["self", "off"] (pureF f_Finder_made) :=
  fn_pureL (N := ["self", "off", "p", "taps", "at", "other_off", "ticks", "k", "change", "own", "many", "one", "other", "more"]) (as := [2, 3, 4, 5, 6, 7, 8, 10, 11, 12]) (d := d_Finder_made) F sc_Finder_made fun cdv A outer s H E hr => (SSs.cons (SS.st (i := 2) sc_Finder_made.nd (by rfl) (by rfl) (SE.attr (SE.v 0 (by rfl) (by rfl) (by rfl) (by rfl)) (by rfl)) (by rfl) (by rfl))
      (SSs.cons (SS.asg (SE.attr (SE.v 0 (by rfl) (by rfl) (by rfl) (by rfl)) (by rfl)) (SG.tup (n := 3) (by rfl) (SGs.cons (SG.n (i := 3) sc_Finder_made.nd (by rfl) (by rfl) (by rfl)) (SGs.cons (SG.n (i := 4) sc_Finder_made.nd (by rfl) (by rfl) (by rfl)) (SGs.cons (SG.n (i := 5) sc_Finder_made.nd (by rfl) (by rfl) (by rfl)) SGs.nil (by rfl)) (by rfl)) (by rfl)) (by rfl) (by rfl)) (by rfl) (by rfl) (by rfl))
      (SSs.cons (SS.st (i := 6) sc_Finder_made.nd (by rfl) (by rfl) (SE.sub (SE.len (by rfl) m_len (SE.attr (SE.v 0 (by rfl) (by rfl) (by rfl) (by rfl)) (by rfl)) (by rfl)) (SE.v 4 (by rfl) (by rfl) (by rfl) (by rfl))) (by rfl) (by rfl))
      (SSs.cons (SS.st (i := 7) sc_Finder_made.nd (by rfl) (by rfl) (SE.mod (SE.mul (SE.v 1 (by rfl) (by rfl) (by rfl) (by rfl)) (SE.callP c_inverse_number hr (by rfl) (SA.cons (SE.v 2 (by rfl) (by rfl) (by rfl) (by rfl)) (SA.cons (SE.v 5 (by rfl) (by rfl) (by rfl) (by rfl)) SA.nil (by rfl)) (by rfl)) (by rfl) (by rfl) (by rfl))) (SE.v 2 (by rfl) (by rfl) (by rfl) (by rfl))) (by rfl) (by rfl))
      (SSs.cons (SS.st (i := 8) sc_Finder_made.nd (by rfl) (by rfl) (SE.add (SE.add (SE.mul (SE.lst (SA.cons SE.int SA.nil (by rfl))) (SE.sub (SE.v 6 (by rfl) (by rfl) (by rfl) (by rfl)) SE.int)) (SE.lst (SA.cons (SE.frz (SE.v 7 (by rfl) (by rfl) (by rfl) (by rfl))) SA.nil (by rfl)))) (SE.lc (by rfl) (by rfl) sc_Finder_made.nd (SI.seq (SE.v 3 (by rfl) (by rfl) (by rfl) (by rfl))) (blkOk_by (own := [("own", 9)]) (N := ["self", "off", "p", "taps", "at", "other_off", "ticks", "k", "change", "own", "many", "one", "other", "more"]) (sc := defScope s_Finder_made) (by decide +kernel)) (by decide) (fun _ _ _ _ _ => (SG.n (i := 9) sc_Finder_made.nd (by rfl) (by rfl) (by rfl))) (fun _ _ _ _ _ => STs.nil) (fun _ _ _ _ _ => (SE.mod (SE.mul (SE.sub (SE.v 2 (by rfl) (by rfl) (by rfl) (by rfl)) (SE.v 7 (by rfl) (by rfl) (by rfl) (by rfl))) (SE.v 9 (by rfl) (by rfl) (by rfl) (by rfl))) (SE.v 2 (by rfl) (by rfl) (by rfl) (by rfl)))) (fun _ => (by rfl)))) (by rfl) (by rfl))
      (SSs.cons (SS.st (i := 10) sc_Finder_made.nd (by rfl) (by rfl) (SE.max2 (by rfl) (by rfl) m_max (SE.len (by rfl) m_len (SE.attr (SE.v 0 (by rfl) (by rfl) (by rfl) (by rfl)) (by rfl)) (by rfl)) (SE.sub (SE.add (SE.len (by rfl) m_len (SE.attr (SE.v 0 (by rfl) (by rfl) (by rfl) (by rfl)) (by rfl)) (by rfl)) SE.int) (SE.len (by rfl) m_len (SE.attr (SE.v 0 (by rfl) (by rfl) (by rfl) (by rfl)) (by rfl)) (by rfl))) (by rfl) (by rfl) (by rfl)) (by rfl) (by rfl))
      (SSs.cons (SS.st (i := 11) sc_Finder_made.nd (by rfl) (by rfl) (SE.add (SE.attr (SE.v 0 (by rfl) (by rfl) (by rfl) (by rfl)) (by rfl)) (SE.mul (SE.lst (SA.cons SE.int SA.nil (by rfl))) (SE.sub (SE.v 10 (by rfl) (by rfl) (by rfl) (by rfl)) (SE.len (by rfl) m_len (SE.attr (SE.v 0 (by rfl) (by rfl) (by rfl) (by rfl)) (by rfl)) (by rfl))))) (by rfl) (by rfl))
      (SSs.cons (SS.st (i := 12) sc_Finder_made.nd (by rfl) (by rfl) (SE.add (SE.v 8 (by rfl) (by rfl) (by rfl) (by rfl)) (SE.mul (SE.lst (SA.cons SE.int SA.nil (by rfl))) (SE.sub (SE.v 10 (by rfl) (by rfl) (by rfl) (by rfl)) (SE.len (by rfl) m_len (SE.v 8 (by rfl) (by rfl) (by rfl) (by rfl)) (by rfl))))) (by rfl) (by rfl))
      (SSs.one (SS.ret (SE.lc (by rfl) (by rfl) sc_Finder_made.nd (SI.zip (by rfl) m_zip (SE.frz (SE.v 11 (by rfl) (by rfl) (by rfl) (by rfl))) (SE.frz (SE.v 12 (by rfl) (by rfl) (by rfl) (by rfl))) (by rfl) (by rfl) (by rfl)) (blkOk_by (own := [("own", 9), ("more", 13)]) (N := ["self", "off", "p", "taps", "at", "other_off", "ticks", "k", "change", "own", "many", "one", "other", "more"]) (sc := defScope s_Finder_made) (by decide +kernel)) (by decide) (fun _ _ _ _ _ => (SG.tup (n := 2) (by rfl) (SGs.cons (SG.n (i := 9) sc_Finder_made.nd (by rfl) (by rfl) (by rfl)) (SGs.cons (SG.n (i := 13) sc_Finder_made.nd (by rfl) (by rfl) (by rfl)) SGs.nil (by rfl)) (by rfl)) (by rfl) (by rfl))) (fun _ _ _ _ _ => STs.nil) (fun _ _ _ _ _ => (SE.mod (SE.add (SE.v 9 (by rfl) (by rfl) (by rfl) (by rfl)) (SE.v 13 (by rfl) (by rfl) (by rfl) (by rfl))) (SE.v 2 (by rfl) (by rfl) (by rfl) (by rfl)))) (fun _ => (by rfl)))))))))))))
abbrev s_Finder_take : Stmt := inClass (topS 11) 2
theorem sc_Finder_take : FnScope ["self", "number", "at", "off", "taps"] ["self", "number"] (defScope s_Finder_take) := ⟨rfl, rfl, rfl, by decide +kernel, rfl, by decide +kernel, by decide +kernel⟩
abbrev s_Finder_first_taps : Stmt := inClass (topS 11) 3
theorem sc_Finder_first_taps : FnScope ["self", "at"] ["self", "at"] (defScope s_Finder_first_taps) := ⟨rfl, rfl, rfl, by decide +kernel, rfl, by decide +kernel, by decide +kernel⟩
def E_Finder_first_taps (self at_ : L) : REnv := [self, at_]
def t_Finder_first_taps_1 : DenS := (dRet (den2 gMul (dLst (dCons (gC (.int 0)) dNil)) (den2 gAdd (gVar 1) (gC (.int 1)))))
def d_Finder_first_taps : DenS := t_Finder_first_taps_1
def f_Finder_first_taps : List T → Option L := bodyP 2 2 d_Finder_first_taps
theorem ok_Finder_first_taps (F : Fun K "first_taps" "Finder.first_taps" s_Finder_first_taps f fd)  : FnL P w K mg base fa (k + 1) f fd ["self", "at"] (pureF f_Finder_first_taps) :=
  fn_pureL (N := ["self", "at"]) (as := []) (d := d_Finder_first_taps) F sc_Finder_first_taps fun cdv A outer s H E hr => (SSs.one (SS.ret (SE.mul (SE.lst (SA.cons SE.int SA.nil (by rfl))) (SE.add (SE.v 1 (by rfl) (by rfl) (by rfl) (by rfl)) SE.int))))
abbrev s_finder_of : Stmt := topS 12
theorem sc_finder_of : FnScope ["p", "row", "finder", "number"] ["p", "row"] (defScope s_finder_of) := ⟨rfl, rfl, rfl, by decide +kernel, rfl, by decide +kernel, by decide +kernel⟩
abbrev s_lengths_along : Stmt := topS 16
theorem sc_lengths_along : FnScope ["p", "row", "finder", "found", "number"] ["p", "row"] (defScope s_lengths_along) := ⟨rfl, rfl, rfl, by decide +kernel, rfl, by decide +kernel, by decide +kernel⟩
end
end LK
/-! the finder: an object that takes a row number by number (by hand over HandS) -/
namespace LK
open PySem PySem.Spec PyProof.Rows L2 LW
open LR (FS intsT intsT_inv intsT_map intOf intOf_inv ownInts ownInts_inv offF newF stepF runF lensF startF f_finder_of f_lengths_along)
/-! ### fields -/
def fl (a b c d : V) : List (Str × V) := [("p", a), ("row", b), ("taps", c), ("before", d)]
theorem n1 : ¬ (("p" : Str) = "row") := by decide +kernel
theorem n2 : ¬ (("p" : Str) = "taps") := by decide +kernel
theorem n3 : ¬ (("p" : Str) = "before") := by decide +kernel
theorem n4 : ¬ (("row" : Str) = "taps") := by decide +kernel
theorem n5 : ¬ (("row" : Str) = "before") := by decide +kernel
theorem n6 : ¬ (("taps" : Str) = "before") := by decide +kernel
variable {a b c d e : V}
theorem put_row : putF "row" b [("p", a)] = ([("p", a), ("row", b)] : List (Str × V)) := by simp [putF, n1]
theorem put_taps : putF "taps" c [("p", a), ("row", b)] = ([("p", a), ("row", b), ("taps", c)] : List (Str × V)) := by simp [putF, n2, n4]
theorem put_before : putF "before" d [("p", a), ("row", b), ("taps", c)] = fl a b c d := by simp [putF, n3, n5, n6, fl]
theorem fl_taps : putF "taps" e (fl a b c d) = fl a b e d := by simp [putF, n2, n4, fl]
theorem fl_before : putF "before" e (fl a b c d) = fl a b c e := by simp [putF, n3, n5, n6, fl]
theorem lk_p : (fl a b c d).lookup ("p" : Str) = some a := by simp [fl]
theorem lk_row : (fl a b c d).lookup ("row" : Str) = some b := by
  have : (("row" : Str) == "p") = false := by decide +kernel
  simp [fl, List.lookup, this]
theorem lk_taps : (fl a b c d).lookup ("taps" : Str) = some c := by
  have h1 : (("taps" : Str) == "p") = false := by decide +kernel
  have h2 : (("taps" : Str) == "row") = false := by decide +kernel
  simp [fl, List.lookup, h1, h2]
theorem lk_before : (fl a b c d).lookup ("before" : Str) = some d := by
  have h1 : (("before" : Str) == "p") = false := by decide +kernel
  have h2 : (("before" : Str) == "row") = false := by decide +kernel
  have h3 : (("before" : Str) == "taps") = false := by decide +kernel
  simp [fl, List.lookup, h1, h2, h3]
theorem lk_no {m : Str} (h1 : (m == "p") = false) (h2 : (m == "row") = false) (h3 : (m == "taps") = false) (h4 : (m == "before") = false) : (fl a b c d).lookup m = none := by
  simp [fl, List.lookup, h1, h2, h3, h4]
/-! ### what a finder is -/
structure FAt (C : Addr) (H : Hp) (x ra ta ba oa : Addr) (s : FS) : Prop where
  ob : ∃ dx, H x = some (.ins C dx (fl (.int s.p) (.ref ra) (.ref ta) (.ref ba)))
  hr : H ra = some (.lst (s.row.map V.int))
  ht : H ta = some (.lst (s.taps.map V.int))
  hb : H ba = some (.tup [.ref oa, .int s.pl, .int s.off])
  ho : H oa = some (.lst (s.bef.map V.int))
  n1 : ra ≠ ta
  n2 : ra ≠ oa
structure Txt (K : PySem.W.Frag) (mg : Str → Option Value) (C : Addr) : Prop where
  cl : Cls K C
  nP : NoAttr K C "p"
  nR : NoAttr K C "row"
  nT : NoAttr K C "taps"
  nB : NoAttr K C "before"
  mgC : mg "Finder" = some (.ref C)
  len : mg "len" = none
theorem FAt.rep {K : PySem.W.Frag} {mg : Str → Option Value} {fa : Nat → Addr} {C x ra ta ba oa : Addr} {H : Hp} {s : FS} (T : Txt K mg C) (A : FAt C H x ra ta ba oa s) : Rep K fa H (.ref x) s.tree := by
  obtain ⟨⟨dx, h⟩, hr, ht, hb, ho, _, _⟩ := A
  refine Rep.ins h T.cl (fun m hm => ?_) rfl ?_
  · simp at hm
    rcases hm with rfl | rfl | rfl | rfl
    · exact T.nP
    · exact T.nR
    · exact T.nT
    · exact T.nB
  · exact .cons (.int _) (.cons (.lst hr (RepAll.of_ints _)) (.cons (.lst ht (RepAll.of_ints _)) (.cons (.tup hb (.cons (.lst ho (RepAll.of_ints _)) (.cons (.int _) (.cons (.int _) .nil)))) .nil)))
/-! ### the promises -/
def spInit (C : Addr) : Sp := fun vs H Q _ => ∃ (x dx : Addr) (p : Int), vs = [.ref x, .int p] ∧ H x = some (.ins C dx []) ∧
  ∀ (ra ta ba oa : Addr) (H' : Hp), FAt C H' x ra ta ba oa (startF p) → (∀ b o, H b = some o → b ≠ x → H' b = some o) → H ra = none → H ta = none → H ba = none → H oa = none → Q .non H'
def spTake (C : Addr) : Sp := fun vs H Q _ => ∃ (x ra ta ba oa : Addr) (s s' : FS) (n : Int), vs = [.ref x, .int n] ∧ FAt C H x ra ta ba oa s ∧ stepF s n = some s' ∧
  ∀ (ta' ba' oa' : Addr) (H' : Hp), FAt C H' x ra ta' ba' oa' s' → (∀ b o, H b = some o → b ≠ x → b ≠ ra → H' b = some o) → (ta' = ta ∨ H ta' = none) → (ba' = ba ∨ H ba' = none) → (oa' = oa ∨ oa' = ta) → Q .non H'
section
variable {P : Program} {w : World} {K : PySem.W.Frag} {mg : Str → Option Value} {base : Heap} {fa : Nat → Addr} {k : Nat} {f C : Addr} {fd : FuncData}
theorem ok_init (F : Fun K "__init__" "Finder.__init__" s_Finder___init__ f fd) (T : Txt K mg C) : FnOk P w K mg base CX0 (k + 1) f fd ["self", "p"] (spInit C) := by
  refine F.ok sc_Finder___init__ (fun vs H Q E h => ?_) (fun cdv A outer s H vs Q E hr h => ?_)
  · obtain ⟨x, dx, p, rfl, _⟩ := h
    rfl
  · obtain ⟨x, dx, p, rfl, hx, kk⟩ := h
    refine ⟨_, pss_cons (ps_fld (pv 0) (pv 1) rfl) (pss_cons (ps_fld (pv 0) (pe_lst pa_nil) rfl) (pss_cons (ps_fld (pv 0) (pe_lst pa_nil) rfl)
      (pss_one (ps_fld (pv 0) (pe_tup (pa_cons (pe_lst pa_nil) (pa_cons (pe_un un_neg pe_int) (pa_cons pe_int pa_nil)))) rfl)))), ?_⟩
    refine ⟨_, rfl, _, rfl, x, C, dx, [], rfl, hx, T.cl, T.nP, by decide, ?_⟩
    refine ⟨by decide, fun ra hra => ⟨_, rfl, x, C, dx, [("p", .int p)], rfl, ?_, T.cl, T.nR, (by show (1:Nat) < 1000; decide), ?_⟩⟩
    · have : ra ≠ x := fun z => by subst z; rw [upd_same] at hra; cases hra
      rw [upd_ne this.symm, upd_same]; rfl
    rw [put_row]
    have nra : ra ≠ x := fun z => by subst z; rw [upd_same] at hra; cases hra
    have hra0 : H ra = none := by rwa [upd_ne nra] at hra
    refine ⟨by decide, fun ta hta => ?_⟩
    have nta : ta ≠ x := fun z => by subst z; rw [upd_same] at hta; cases hta
    rw [upd_ne nta] at hta
    have nar : ta ≠ ra := fun z => by subst z; rw [upd_same] at hta; cases hta
    rw [upd_ne nar, upd_ne nta] at hta
    refine ⟨_, rfl, x, C, dx, [("p", .int p), ("row", .ref ra)], rfl, ?_, T.cl, T.nT, (by show (2:Nat) < 1000; decide), ?_⟩
    · rw [upd_ne nta.symm, upd_same]
    rw [put_taps]
    refine ⟨by decide, fun oa hoa => ?_⟩
    have noa : oa ≠ x := fun z => by subst z; rw [upd_same] at hoa; cases hoa
    rw [upd_ne noa] at hoa
    have not_ : oa ≠ ta := fun z => by subst z; rw [upd_same] at hoa; cases hoa
    rw [upd_ne not_, upd_ne noa] at hoa
    have nor_ : oa ≠ ra := fun z => by subst z; rw [upd_same] at hoa; cases hoa
    rw [upd_ne nor_, upd_ne noa] at hoa
    refine ⟨_, rfl, (by show (3:Nat) ≤ sizeLine; decide), fun ba hba => ?_⟩
    have nbo : ba ≠ oa := fun z => by subst z; rw [upd_same] at hba; cases hba
    rw [upd_ne nbo] at hba
    have nbx : ba ≠ x := fun z => by subst z; rw [upd_same] at hba; cases hba
    rw [upd_ne nbx] at hba
    have nbt : ba ≠ ta := fun z => by subst z; rw [upd_same] at hba; cases hba
    rw [upd_ne nbt, upd_ne nbx] at hba
    have nbr : ba ≠ ra := fun z => by subst z; rw [upd_same] at hba; cases hba
    rw [upd_ne nbr, upd_ne nbx] at hba
    refine ⟨_, rfl, x, C, dx, [("p", .int p), ("row", .ref ra), ("taps", .ref ta)], rfl, ?_, T.cl, T.nB, (by show (3:Nat) < 1000; decide), ?_⟩
    · rw [upd_ne nbx.symm, upd_ne noa.symm, upd_same]
    rw [put_before]
    refine kk ra ta ba oa _ ⟨⟨dx, upd_same⟩, ?_, ?_, ?_, ?_, nar.symm, nor_.symm⟩ (fun b o e n => ?_) hra0 hta hba hoa
    · rw [upd_ne nra, upd_ne nbr.symm, upd_ne nor_.symm, upd_ne nra, upd_ne nar.symm, upd_ne nra, upd_same]; rfl
    · rw [upd_ne nta, upd_ne nbt.symm, upd_ne not_.symm, upd_ne nta, upd_same]; rfl
    · rw [upd_ne nbx, upd_same]; rfl
    · rw [upd_ne noa, upd_ne nbo.symm, upd_same]; rfl
    · rw [upd_ne n, upd_ne (ne_of_none e hba), upd_ne (ne_of_none e hoa), upd_ne n, upd_ne (ne_of_none e hta), upd_ne n, upd_ne (ne_of_none e hra0), upd_ne n]
      exact e
/-- a call of a pure def with trees that stand in the heap as it is -/
theorem call_pure {f : List T → Option L} {n : Nat} {vs : List V} {ts : List T} {H : Hp} {Q : VK} {E : XK} {r : L} (hn : vs.length = n) (R : RepAll K fa H vs ts) (hf : f ts = some r)
    (kk : ∀ v G' H', Same H G' → Same G' H' → Same H H' → LRep K fa G' H' (fun _ => False) (vs.map some) v r → NewL H v r → Q v H') : spM K fa n (pureF f) vs H Q E := by
  refine ⟨hn, H, ts.map L.t, r, ts.map L.t, env_ts (Same.refl _) R, by simp [pureF, allT_map, hf], fun v G' H' P => ?_⟩
  have nc : ∀ a, ¬ Cl (vs.map some) (ts.map L.t) a := fun a z => cl_ts z
  have sm : Same H H' := fun a o e => P.aft.keep a o e (nc a)
  refine kk v G' H' P.aft.gg P.env.same sm ?_ P.new
  have rp := P.rep
  cases r with
  | un => exact rp
  | t y => exact rp
  | own c =>
    obtain ⟨p, o, h1, h2, h3, h4, h5⟩ := rp
    exact ⟨p, o, h1, h2, fun z => z, h4, h5⟩
  | ref i => exact rp
def ifBody : Stmt → List Stmt
  | .If _ a _ _ => a
  | _ => []
theorem ok_take {fM fF : Addr} {fdM fdF : FuncData} (F : Fun K "take" "Finder.take" s_Finder_take f fd) (T : Txt K mg C) (c_next : Fn P w K mg base fa k "next_number" 3 (pureF LR.f_next_number))
    (GM : FnOk P w K mg base CX0 k fM fdM ["self", "off"] (spM K fa 2 (pureF LR.f_Finder_made))) (bM : Binds K fdM ["self", "off"] []) (mM : Meth K C "made" fM)
    (GF : FnOk P w K mg base CX0 k fF fdF ["self", "at"] (spM K fa 2 (pureF LR.f_Finder_first_taps))) (bF : Binds K fdF ["self", "at"] []) (mF : Meth K C "first_taps" fF) :
    FnOk P w K mg base CX0 (k + 1) f fd ["self", "number"] (spTake C) := by
  obtain ⟨fN, fdN, psN, GN, gN, kN, bN⟩ := c_next.ex
  refine F.ok sc_Finder_take (fun vs H Q E h => ?_) (fun cdv A0 outer s0 H vs Q E hr h => ?_)
  · obtain ⟨_, _, _, _, _, _, _, _, rfl, _⟩ := h
    rfl
  · obtain ⟨x, ra, ta, ba, oa, s, s', n, rfl, A, hs, kk⟩ := h
    have nd := sc_Finder_take.nd
    have hs1 : (0 < s.p ∧ s.row.length < 1000) ∧ (offF s n).bind (fun o => if o = 0 then some { s with row := s.row ++ [n] } else
      (newF s o).map fun ts => if s.taps.length < ts.length then { s with row := s.row ++ [n], taps := ts, bef := s.taps, pl := s.row.length, off := o } else { s with row := s.row ++ [n], taps := ts }) = some s' := by
      unfold LR.stepF at hs
      split at hs
      · rename_i h; exact ⟨h, hs⟩
      · cases hs
    obtain ⟨⟨hp, hl⟩, hs2⟩ := hs1
    have third : ∃ t3, PSs (cxOf CX0 P w K mg base ["self", "number", "at", "off", "taps"] "Finder.take" (defScope s_Finder_take) f cdv A0 outer s0 H E).nox ((defBody s_Finder_take).drop 4) t3 ∧
        ∀ (v2 v3 v4 : Option V) (ta' ba' oa' : Addr) (s3 : FS) (H3 : Hp), s3.row = s.row → FAt C H3 x ra ta' ba' oa' s3 → s' = { s3 with row := s.row ++ [n] } → (∀ b o, H b = some o → b ≠ x → H3 b = some o) →
          (ta' = ta ∨ H ta' = none) → (ba' = ba ∨ H ba' = none) → (oa' = oa ∨ oa' = ta) → t3 { nx := fun _ H' => Q .non H', rt := Q } [some (.ref x), some (.int n), v2, v3, v4] H3 := by
      refine ⟨_, pss_one (ps_expr (pe_bm PySem.F.plainAttrs_list PySem.F.slot_list_append PySem.F.type_list_append mt_append (pe_fld (pv 0) rfl) (pa_cons (pv 1) pa_nil))), ?_⟩
      intro v2 v3 v4 ta' ba' oa' s3 H3 er B es keep k1 k2 k3
      obtain ⟨dx, hx⟩ := B.ob
      have nrx : ra ≠ x := fun z => by have := B.hr; rw [z, hx] at this; cases this
      have nrb : ra ≠ ba' := fun z => by have := B.hr; rw [z, B.hb] at this; cases this
      refine ⟨_, rfl, x, C, dx, _, _, rfl, hx, T.cl, T.nR, lk_row, Or.inl ⟨rfl, _, .inl (.inl B.hr)⟩, _, rfl, ra, _, _, rfl, rfl, B.hr, ?_, ?_⟩
      · rw [List.length_map, er]; exact Nat.lt_trans hl (by decide)
      · subst es
        refine kk ta' ba' oa' _ ⟨⟨dx, ?_⟩, ?_, ?_, ?_, ?_, B.n1, B.n2⟩ (fun b o e1 e2 e3 => ?_) k1 k2 k3
        · rw [upd_ne nrx.symm]; exact hx
        · rw [upd_same, er, List.map_append]; rfl
        · rw [upd_ne B.n1.symm]; exact B.ht
        · rw [upd_ne nrb.symm]; exact B.hb
        · rw [upd_ne B.n2.symm]; exact B.ho
        · rw [upd_ne e3]; exact keep b o e1 e2
    obtain ⟨t3, pt3, rt3⟩ := third
    have fourth : ∃ t4, PSs (cxOf CX0 P w K mg base ["self", "number", "at", "off", "taps"] "Finder.take" (defScope s_Finder_take) f cdv A0 outer s0 H E).nox ((ifBody ((defBody s_Finder_take).getD 3 (.Pass ⟨0, 0, 0, 0⟩))).drop 1) t4 ∧
        ∀ (o : Int) (ts : List Int) (tn : Addr) (H3 : Hp), offF s n = some o → o ≠ 0 → newF s o = some ts → H tn = none → H3 tn = some (.lst (ts.map V.int)) → Same H H3 →
          t4 { nx := t3 { nx := fun _ H' => Q .non H', rt := Q }, rt := Q } [some (.ref x), some (.int n), some (.int s.row.length), some (.int o), some (.ref tn)] H3 := by
      refine ⟨_, pss_cons (ps_if (pt_cmpR op_gt (pe_callB call_len_seq (by rfl) T.len PySem.boot_len (pa_cons (pv 4) pa_nil)) (pe_callB call_len_seq (by rfl) T.len PySem.boot_len (pa_cons (pe_fld (pv 0) rfl) pa_nil)) (nomark _))
          (pss_one (ps_fld (pv 0) (pe_tup (pa_cons (pe_fld (pv 0) rfl) (pa_cons (pv 2) (pa_cons (pv 3) pa_nil)))) rfl)) pss_nil)
        (pss_one (ps_fld (pv 0) (pv 4) rfl)), ?_⟩
      intro o ts tn H3 ho o0 hts htn hx3 sm
      rw [ho, Option.bind_some, if_neg o0, hts, Option.map_some, Option.some_inj] at hs2
      obtain ⟨dx, hx⟩ := A.ob
      have nrt : ra ≠ tn := ne_of_none A.hr htn
      have ntx : tn ≠ x := (ne_of_none hx htn).symm
      refine ⟨_, rfl, tn, _, rfl, .inl (.inl (.inl hx3)), _, rfl, x, C, dx, _, _, rfl, sm _ _ hx, T.cl, T.nT, lk_taps, ta, _, rfl, .inl (.inl (.inl (sm _ _ A.ht))), _, _, rfl, rfl, _, rfl, ?_⟩
      have hle : (decide (((s.taps.map V.int).length : Int) < ((ts.map V.int).length : Int))) = decide (s.taps.length < ts.length) := by
        rw [List.length_map, List.length_map]
        exact decide_eq_decide.mpr (by omega)
      rw [hle]
      by_cases hlt : s.taps.length < ts.length
      · rw [decide_eq_true hlt]
        refine iteT ?_
        rw [if_pos hlt] at hs2
        refine ⟨_, rfl, x, C, dx, _, _, rfl, sm _ _ hx, T.cl, T.nT, lk_taps, _, rfl, _, rfl, (by show (3:Nat) ≤ sizeLine; decide), fun bn hbn => ?_⟩
        have nbx : bn ≠ x := (ne_of_none (sm _ _ hx) hbn).symm
        refine ⟨_, rfl, x, C, dx, fl (.int s.p) (.ref ra) (.ref ta) (.ref ba), rfl, ?_, T.cl, T.nB, (by show (4:Nat) < 1000; decide), ?_⟩
        · rw [upd_ne nbx.symm]; exact sm _ _ hx
        rw [fl_before]
        refine ⟨_, rfl, _, rfl, x, C, dx, fl (.int s.p) (.ref ra) (.ref ta) (.ref bn), rfl, upd_same, T.cl, T.nT, (by show (4:Nat) < 1000; decide), ?_⟩
        rw [fl_taps]
        have nbt : bn ≠ tn := (ne_of_none hx3 hbn).symm
        have nbr : bn ≠ ra := (ne_of_none (sm _ _ A.hr) hbn).symm
        have nrx : ra ≠ x := fun z => by have := A.hr; rw [z, hx] at this; cases this
        have nta : ta ≠ x := fun z => by have := A.ht; rw [z, hx] at this; cases this
        refine rt3 _ _ _ tn bn ta { s with taps := ts, bef := s.taps, pl := s.row.length, off := o } _ rfl ⟨⟨dx, upd_same⟩, ?_, ?_, ?_, ?_, nrt, A.n1⟩ hs2.symm (fun b oo e n => ?_) (.inr htn) (.inr (sm.free hbn)) (.inr rfl)
        · rw [upd_ne nrx, upd_ne nrx, upd_ne nbr.symm]; exact sm _ _ A.hr
        · rw [upd_ne ntx, upd_ne ntx, upd_ne nbt.symm]; exact hx3
        · rw [upd_ne nbx, upd_ne nbx, upd_same]
        · rw [upd_ne nta, upd_ne nta, upd_ne (ne_of_none (sm _ _ A.ht) hbn)]; exact sm _ _ A.ht
        · rw [upd_ne n, upd_ne n, upd_ne (ne_of_none (sm _ _ e) hbn)]; exact sm _ _ e
      · rw [decide_eq_false hlt]
        refine iteF ?_
        rw [if_neg hlt] at hs2
        refine ⟨_, rfl, _, rfl, x, C, dx, fl (.int s.p) (.ref ra) (.ref ta) (.ref ba), rfl, sm _ _ hx, T.cl, T.nT, (by show (4:Nat) < 1000; decide), ?_⟩
        rw [fl_taps]
        have nrx : ra ≠ x := fun z => by have := A.hr; rw [z, hx] at this; cases this
        have nba : ba ≠ x := fun z => by have := A.hb; rw [z, hx] at this; cases this
        have noa : oa ≠ x := fun z => by have := A.ho; rw [z, hx] at this; cases this
        refine rt3 _ _ _ tn ba oa { s with taps := ts } _ rfl ⟨⟨dx, upd_same⟩, ?_, ?_, ?_, ?_, nrt, A.n2⟩ hs2.symm (fun b oo e n => ?_) (.inr htn) (.inl rfl) (.inl rfl)
        · rw [upd_ne nrx]; exact sm _ _ A.hr
        · rw [upd_ne ntx]; exact hx3
        · rw [upd_ne nba]; exact sm _ _ A.hb
        · rw [upd_ne noa]; exact sm _ _ A.ho
        · rw [upd_ne n]; exact sm _ _ e
    obtain ⟨t4, pt4, rt4⟩ := fourth
    have second : ∃ t2, PSs (cxOf CX0 P w K mg base ["self", "number", "at", "off", "taps"] "Finder.take" (defScope s_Finder_take) f cdv A0 outer s0 H E).nox ((defBody s_Finder_take).drop 3) t2 ∧
        ∀ (o : Int) (H2 : Hp), offF s n = some o → Same H H2 → t2 { nx := fun _ H' => Q .non H', rt := Q } [some (.ref x), some (.int n), some (.int s.row.length), some (.int o), none] H2 := by
      refine ⟨_, pss_cons (ps_if (pt_cmpR op_ne (pv 3) pe_int (nomark _))
        (pss_cons (ps_set (i := 4) nd rfl (Or.inl rfl) (pe_ifExp (pt_cmpR op_lt (pe_ix ix_tup (pe_fld (pv 0) rfl) pe_int (fun _ _ => rfl)) pe_int (nomark _))
            (pe_meth (pv 0) T.cl mF GF hr bF .nil pass0 (pa_cons (pv 2) pa_nil)) (pe_meth (pv 0) T.cl mM GM hr bM .nil pass0 (pa_cons (pv 3) pa_nil)))) pt4) pss_nil) pt3, ?_⟩
      intro o H2 ho sm
      obtain ⟨dx, hx⟩ := A.ob
      refine ⟨_, rfl, rfl, _, rfl, ?_⟩
      by_cases o0 : o = 0
      · subst o0
        rw [show (!decide (V.int 0 = V.int 0)) = false from by simp]
        refine iteF ?_
        rw [ho, Option.bind_some, if_pos rfl, Option.some_inj] at hs2
        exact rt3 _ _ _ ta ba oa s _ rfl ⟨⟨dx, sm _ _ hx⟩, sm _ _ A.hr, sm _ _ A.ht, sm _ _ A.hb, sm _ _ A.ho, A.n1, A.n2⟩ hs2.symm (fun b o e _ => sm _ _ e) (.inl rfl) (.inl rfl) (.inl rfl)
      · rw [show (!decide (V.int o = V.int 0)) = true from by simp [o0]]
        refine iteT ?_
        cases hts : newF s o with
        | none => rw [ho, Option.bind_some, if_neg o0, hts] at hs2; cases hs2
        | some ts =>
          have A2 : FAt C H2 x ra ta ba oa s := ⟨⟨dx, sm _ _ hx⟩, sm _ _ A.hr, sm _ _ A.ht, sm _ _ A.hb, sm _ _ A.ho, A.n1, A.n2⟩
          refine ⟨_, rfl, x, C, dx, _, _, rfl, sm _ _ hx, T.cl, T.nB, lk_before, ba, _, 1, .int s.pl, rfl, rfl, .inl (.inl (sm _ _ A.hb)), rfl, _, _, rfl, rfl, _, rfl, ?_⟩
          unfold LR.newF at hts
          by_cases pl0 : s.pl < 0
          · rw [decide_eq_true pl0]
            refine iteT ?_
            rw [if_pos pl0] at hts
            cases hf : LR.f_Finder_first_taps [s.tree, .int s.row.length] with
            | none => rw [hf] at hts; cases hts
            | some r =>
              rw [hf, Option.bind_some] at hts
              have er := ownInts_inv hts
              subst er
              refine ⟨_, rfl, x, dx, _, rfl, sm _ _ hx, lk_no (by decide +kernel) (by decide +kernel) (by decide +kernel) (by decide +kernel), _, rfl, ?_⟩
              refine call_pure (E := E) rfl (.cons (A2.rep T) (.cons (.int _) .nil)) hf fun v G' H' s1 s2 s3 rp nw => ?_
              obtain ⟨tn, oo, rfl, g, _, h4, h5⟩ := rp
              have htn : H2 tn = none := nw tn rfl
              cases oo with
              | lst vs =>
                have e := RepAll.ints (show RepAll K fa G' vs (ts.map LW.T.int) from h5)
                subst e
                exact rt4 o ts tn H' ho o0 (by unfold LR.newF; rw [if_pos pl0, hf]; exact hts) (sm.free htn) h4 (sm.trans s3)
              | _ => exact (h5 : False).elim
          · rw [decide_eq_false pl0]
            refine iteF ?_
            rw [if_neg pl0] at hts
            cases hf : LR.f_Finder_made [s.tree, .int o] with
            | none => rw [hf] at hts; cases hts
            | some r =>
              rw [hf, Option.bind_some] at hts
              have er := ownInts_inv hts
              subst er
              refine ⟨_, rfl, x, dx, _, rfl, sm _ _ hx, lk_no (by decide +kernel) (by decide +kernel) (by decide +kernel) (by decide +kernel), _, rfl, ?_⟩
              refine call_pure (E := E) rfl (.cons (A2.rep T) (.cons (.int _) .nil)) hf fun v G' H' s1 s2 s3 rp nw => ?_
              obtain ⟨tn, oo, rfl, g, _, h4, h5⟩ := rp
              have htn : H2 tn = none := nw tn rfl
              cases oo with
              | lst vs =>
                have e := RepAll.ints (show RepAll K fa G' vs (ts.map LW.T.int) from h5)
                subst e
                exact rt4 o ts tn H' ho o0 (by unfold LR.newF; rw [if_neg pl0, hf]; exact hts) (sm.free htn) h4 (sm.trans s3)
              | _ => exact (h5 : False).elim
    obtain ⟨t2, pt2, rt2⟩ := second
    refine ⟨_, pss_cons (ps_set (i := 2) nd rfl (Or.inl rfl) (pe_callB call_len_seq (by rfl) T.len PySem.boot_len (pa_cons (pe_fld (pv 0) rfl) pa_nil)))
      (pss_cons (ps_set (i := 3) nd rfl (Or.inl rfl) pe_int)
      (pss_cons (ps_if (pt_cmpR op_ge (pv 2) (pe_callB call_len_seq (by rfl) T.len PySem.boot_len (pa_cons (pe_fld (pv 0) rfl) pa_nil)) (nomark _))
        (pss_one (ps_set (i := 3) nd rfl (Or.inl rfl) (pe_op op_mod (pe_op op_sub (pv 1) (pe_call GN hr rfl gN kN bN .nil pass0 (pa_cons (pe_fld (pv 0) rfl) (pa_cons (pe_fld (pv 0) rfl) (pa_cons (pe_fld (pv 0) rfl) pa_nil))))) (pe_fld (pv 0) rfl)))) pss_nil) pt2)), ?_⟩
    obtain ⟨dx, hx⟩ := A.ob
    refine ⟨_, rfl, x, C, dx, _, _, rfl, hx, T.cl, T.nR, lk_row, ra, _, rfl, .inl (.inl (.inl A.hr)), ?_⟩
    refine ⟨_, rfl, _, rfl, x, C, dx, _, _, rfl, hx, T.cl, T.nT, lk_taps, ta, _, rfl, .inl (.inl (.inl A.ht)), _, _, rfl, rfl, _, rfl, ?_⟩
    have hle : (decide (((s.taps.map V.int).length : Int) ≤ ((s.row.map V.int).length : Int))) = decide (s.taps.length ≤ s.row.length) := by
      rw [List.length_map, List.length_map]
      exact decide_eq_decide.mpr (by omega)
    rw [hle, List.length_map]
    by_cases ht : s.taps.length ≤ s.row.length
    · rw [decide_eq_true ht]
      refine iteT ?_
      cases hy : (LR.f_next_number [.int s.p, .lst (s.taps.map LW.T.int), .lst (s.row.map LW.T.int)]).bind intOf with
      | none => unfold LR.offF at hs2; rw [if_pos ht, hy] at hs2; cases hs2
      | some y =>
        have ho : offF s n = some ((n - y) % s.p) := by unfold LR.offF; rw [if_pos ht, hy]; rfl
        cases hf : LR.f_next_number [.int s.p, .lst (s.taps.map LW.T.int), .lst (s.row.map LW.T.int)] with
        | none => rw [hf] at hy; cases hy
        | some r =>
          rw [hf, Option.bind_some] at hy
          have er := intOf_inv hy
          subst er
          refine ⟨_, rfl, _, rfl, x, C, dx, _, _, rfl, hx, T.cl, T.nP, lk_p, _, rfl, x, C, dx, _, _, rfl, hx, T.cl, T.nT, lk_taps, _, rfl, x, C, dx, _, _, rfl, hx, T.cl, T.nR, lk_row, ?_⟩
          refine call_pure (E := E) rfl (.cons (.int _) (.cons (.lst A.ht (RepAll.of_ints _)) (.cons (.lst A.hr (RepAll.of_ints _)) .nil))) hf fun v G' H' s1 s2 s3 rp nw => ?_
          cases (show Rep K fa G' v (.int y) from rp)
          refine ⟨_, _, rfl, rfl, _, rfl, x, C, dx, _, _, rfl, s3 _ _ hx, T.cl, T.nP, lk_p, _, _, rfl, rfl, hp, ?_⟩
          exact rt2 _ H' ho s3
    · rw [decide_eq_false ht]
      refine iteF ?_
      exact rt2 0 H (by unfold LR.offF; rw [if_neg ht]) (Same.refl _)
end
end LK
/-! finder_of and lengths_along: a row taken number by number -/
namespace LK
open PySem PySem.Spec PyProof.Rows L2 LW
open LR (FS intsT intsT_inv intsT_map intOf intOf_inv ownInts ownInts_inv offF newF stepF runF lensF startF f_finder_of f_lengths_along)
section
variable {P : Program} {w : World} {K : PySem.W.Frag} {mg : Str → Option Value} {base : Heap} {fa : Nat → Addr} {k kI : Nat} {f C : Addr} {fd : FuncData}
theorem args2 {G H : Hp} {vs : List V} {x y : LW.T} (hn : vs.length = 2) (E : EnvOk K fa G H (vs.map some) [L.t x, L.t y]) : ∃ u v, vs = [u, v] ∧ Rep K fa G u x ∧ Rep K fa G v y := by
  match vs, hn with
  | [u, v], _ =>
    obtain ⟨u', e1, r1⟩ := E.t 0 x rfl
    obtain ⟨v', e2, r2⟩ := E.t 1 y rfl
    cases e1
    cases e2
    exact ⟨u, v, rfl, r1, r2⟩
theorem FAt.of {H H' : Hp} {x ra ta ba oa : Addr} {s : FS} (A : FAt C H x ra ta ba oa s) (h1 : H' x = H x) (h2 : H' ra = H ra) (h3 : H' ta = H ta) (h4 : H' ba = H ba) (h5 : H' oa = H oa) : FAt C H' x ra ta ba oa s :=
  ⟨by rw [h1]; exact A.ob, by rw [h2]; exact A.hr, by rw [h3]; exact A.ht, by rw [h4]; exact A.hb, by rw [h5]; exact A.ho, A.n1, A.n2⟩
theorem pure_inv {f : List LW.T → Option L} {ls : List L} {r : L} {ls' : List L} (h : pureF f ls = some (r, ls')) : ∃ ts, ls = ts.map L.t ∧ f ts = some r ∧ ls' = ls := by
  cases q1 : allT ls with
  | none => simp [pureF, q1] at h
  | some ts =>
    have e := allT_inv q1
    cases q2 : f ts with
    | none => simp [pureF, q1, q2] at h
    | some r' =>
      simp [pureF, q1, q2] at h
      obtain ⟨rfl, rfl⟩ := h
      exact ⟨ts, e, q2, rfl⟩
theorem fof_inv {ts : List LW.T} {r : L} (h : f_finder_of ts = some r) : ∃ p ns s, ts = [LW.T.int p, .lst (ns.map LW.T.int)] ∧ runF (startF p) ns = some s ∧ r = .t s.tree := by
  unfold LR.f_finder_of at h
  split at h
  · rename_i p xs
    cases q : intsT xs with
    | none => rw [q] at h; cases h
    | some ns =>
      rw [q, Option.bind_some] at h
      cases q2 : runF (startF p) ns with
      | none => rw [q2] at h; cases h
      | some s =>
        rw [q2] at h
        exact ⟨p, ns, s, by rw [intsT_inv q], q2, (Option.some.inj h).symm⟩
  · cases h
theorem lal_inv {ts : List LW.T} {r : L} (h : f_lengths_along ts = some r) : ∃ p ns rs, ts = [LW.T.int p, .lst (ns.map LW.T.int)] ∧ ns.length < 1000 ∧ lensF (startF p) ns = some rs ∧ r = .own (.lst (rs.map LW.T.int)) := by
  unfold LR.f_lengths_along at h
  split at h
  · rename_i p xs
    cases q : intsT xs with
    | none => rw [q] at h; cases h
    | some ns =>
      rw [q, Option.bind_some] at h
      split at h
      · rename_i hl
        cases q2 : lensF (startF p) ns with
        | none => rw [q2] at h; cases h
        | some s =>
          rw [q2] at h
          exact ⟨p, ns, s, by rw [intsT_inv q], hl, q2, (Option.some.inj h).symm⟩
      · cases h
  · cases h
theorem drop_get {ns : List Int} {i : Nat} {y : V} (h : (ns.map V.int)[i]? = some y) : ∃ n, y = .int n ∧ ns.drop i = n :: ns.drop (i + 1) := by
  rw [List.getElem?_map] at h
  cases e : ns[i]? with
  | none => rw [e] at h; cases h
  | some n =>
    rw [e] at h
    have hi : i < ns.length := (List.getElem?_eq_some_iff.mp e).1
    refine ⟨n, (Option.some.inj h).symm, ?_⟩
    rw [List.drop_eq_getElem_cons hi]
    congr 1
    exact (List.getElem?_eq_some_iff.mp e).2
theorem ok_finder_of {fI fT : Addr} {fdI fdT : FuncData} (F : Fun K "finder_of" "finder_of" s_finder_of f fd) (hmg : mg "finder_of" = some (.ref f)) (hb : Binds K fd ["p", "row"] []) (T : Txt K mg C) (hk : kI + 1 ≤ k)
    (M : Mk K C fI) (GI : FnOk P w K mg base CX0 kI fI fdI ["self", "p"] (spInit C)) (bI : Binds K fdI ["self", "p"] [])
    (GT : FnOk P w K mg base CX0 k fT fdT ["self", "number"] (spTake C)) (bT : Binds K fdT ["self", "number"] []) (mT : Meth K C "take" fT) :
    Fn P w K mg base fa (k + 1) "finder_of" 2 (pureF f_finder_of) := by
  refine ⟨f, fd, ["p", "row"], ?_, hmg, F.kp, hb⟩
  refine F.ok sc_finder_of (fun vs H Q E h => h.1) (fun cdv A0 outer s0 H vs Q E hr h => ?_)
  obtain ⟨hn, G, ls, r, ls', E0, hm, kk⟩ := h
  obtain ⟨ts, rfl, hf, rfl⟩ := pure_inv hm
  obtain ⟨p, ns, s, rfl, hs, rfl⟩ := fof_inv hf
  obtain ⟨u, v, rfl, r1, r2⟩ := args2 hn E0
  cases r1
  cases r2 with
  | @lst a ws _ ga rw_ =>
  have ew := RepAll.ints rw_
  subst ew
  have nd := sc_finder_of.nd
  have hr1 : Room (kI + 1) _ := hr.mono hk
  refine ⟨_, pss_cons (ps_set (i := 2) nd rfl (Or.inl rfl) (pe_make M GI hr1 rfl T.mgC bI .nil pass0 (pa_cons (pv 0) pa_nil)))
    (pss_cons (ps_for PassesOwn.never rfl (pi_list (pv 1)) (pg_name (i := 3) nd rfl (Or.inl rfl)) (pss_one (ps_expr (pe_meth (pv 2) T.cl mT GT hr bT .nil pass0 (pa_cons (pv 3) pa_nil)))))
    (pss_one (ps_ret (pv 2)))), ?_⟩
  refine ⟨_, rfl, ?_⟩
  intro x dx nx ndx nex
  refine ⟨x, dx, p, rfl, upd_same, fun ra ta ba oa H1 A kp f1 f2 f3 f4 => ⟨rfl, ?_⟩⟩
  have s0_ : Same H (upd (upd H dx (.own x)) x (.ins C dx [])) := fun b o e => by
    rw [upd_ne (ne_of_none e nx), upd_ne (ne_of_none e ndx)]; exact e
  have s1 : Same H H1 := fun b o e => kp b o (s0_ b o e) (ne_of_none e nx)
  have ha : H a = some (.lst (ns.map V.int)) := E0.same _ _ ga
  refine ⟨_, rfl, a, rfl, ⟨_, .inl (.inl (s1 _ _ ha))⟩, for_list (K := K) (a := a) (xs := ns.map V.int)
    (fun i σ H2 => ∃ (si : FS) (v : Option V) (ta' ba' oa' : Addr), σ = [some (.int p), some (.ref a), some (.ref x), v] ∧ Same H H2 ∧ FAt C H2 x ra ta' ba' oa' si ∧ runF si (ns.drop i) = some s ∧ H ta' = none ∧ H ba' = none ∧ H oa' = none)
    ⟨startF p, none, ta, ba, oa, rfl, s1, A, hs, s0_.free f2, s0_.free f3, s0_.free f4⟩ (fun i σ H2 _ ⟨_, _, _, _, _, _, s2, _⟩ => .inl (.inl (s2 _ _ ha))) ?_ ?_⟩
  · rintro i y σ H2 hi ⟨si, v, ta', ba', oa', rfl, s2, B, hrun, g1, g2, g3⟩
    obtain ⟨n, rfl, hd⟩ := drop_get hi
    rw [hd] at hrun
    cases hst : stepF si n with
    | none => simp [LR.runF, hst] at hrun
    | some sj =>
      simp [LR.runF, hst] at hrun
      obtain ⟨dy, hx⟩ := B.ob
      refine ⟨_, rfl, x, dy, _, rfl, hx, lk_no (by decide +kernel) (by decide +kernel) (by decide +kernel) (by decide +kernel), _, rfl, ?_⟩
      refine ⟨x, ra, ta', ba', oa', si, sj, n, rfl, B, hst, fun ta2 ba2 oa2 H3 B3 keep k1 k2 k3 => ?_⟩
      have s3 : Same H H3 := fun b o e => keep b o (s2 b o e) (ne_of_none e nx) (ne_of_none e (s0_.free f1))
      refine ⟨sj, some (.int n), ta2, ba2, oa2, rfl, s3, B3, hrun, ?_, ?_, ?_⟩
      · rcases k1 with rfl | k1
        · exact g1
        · exact s2.free k1
      · rcases k2 with rfl | k2
        · exact g2
        · exact s2.free k2
      · rcases k3 with rfl | rfl
        · exact g3
        · exact g1
  · rintro σ H2 ⟨si, v, ta', ba', oa', rfl, s2, B, hrun, g1, g2, g3⟩
    rw [List.length_map, List.drop_length] at hrun
    cases hrun
    refine ⟨_, rfl, kk (.ref x) (fun b => if H b = none then H2 b else G b) H2 ⟨⟨fun b o e => ?_, fun b o e _ => s2 b o e, fun b o e _ g => ?_, fun b e => s2.free e, fun b e => .inl e⟩, ?_, ?_, trivial⟩⟩
    · show (if H b = none then H2 b else G b) = some o
      rw [if_neg (by rw [E0.same b o e]; simp)]
      exact e
    · show (if H b = none then H2 b else G b) = none
      rw [if_neg (by rw [e]; simp)]
      exact g
    · have sg : Same G (fun b => if H b = none then H2 b else G b) := fun b o e => by
        show (if H b = none then H2 b else G b) = some o
        rw [if_neg (by rw [E0.same b o e]; simp)]
        exact e
      refine env_ts (vs := [.int p, .ref a]) (ts := [.int p, .lst (ns.map LW.T.int)]) (fun b o e => ?_) (.cons (.int _) (.cons (.lst (sg _ _ ga) (RepAll.of_ints _)) .nil))
      have e : (if H b = none then H2 b else G b) = some o := e
      split at e
      · exact e
      · exact s2 b o (E0.same b o e)
    · have z : ∀ b, H b = none → (if H b = none then H2 b else G b) = H2 b := fun b e => if_pos e
      exact FAt.rep T (B.of (z x nx) (z ra (s0_.free f1)) (z ta' g1) (z ba' g2) (z oa' g3))
theorem ok_lengths_along {fI fT : Addr} {fdI fdT : FuncData} (F : Fun K "lengths_along" "lengths_along" s_lengths_along f fd) (hmg : mg "lengths_along" = some (.ref f)) (hb : Binds K fd ["p", "row"] []) (T : Txt K mg C) (hk : kI + 1 ≤ k)
    (M : Mk K C fI) (GI : FnOk P w K mg base CX0 kI fI fdI ["self", "p"] (spInit C)) (bI : Binds K fdI ["self", "p"] [])
    (GT : FnOk P w K mg base CX0 k fT fdT ["self", "number"] (spTake C)) (bT : Binds K fdT ["self", "number"] []) (mT : Meth K C "take" fT) :
    Fn P w K mg base fa (k + 1) "lengths_along" 2 (pureF f_lengths_along) := by
  refine ⟨f, fd, ["p", "row"], ?_, hmg, F.kp, hb⟩
  refine F.ok sc_lengths_along (fun vs H Q E h => h.1) (fun cdv A0 outer s0 H vs Q E hr h => ?_)
  obtain ⟨hn, G, ls, r, ls', E0, hm, kk⟩ := h
  obtain ⟨ts, rfl, hf, rfl⟩ := pure_inv hm
  obtain ⟨p, ns, rs, rfl, hlen, hs, rfl⟩ := lal_inv hf
  obtain ⟨u, v, rfl, r1, r2⟩ := args2 hn E0
  cases r1
  cases r2 with
  | @lst a ws _ ga rw_ =>
  have ew := RepAll.ints rw_
  subst ew
  have nd := sc_lengths_along.nd
  have hr1 : Room (kI + 1) _ := hr.mono hk
  refine ⟨_, pss_cons (ps_set (i := 2) nd rfl (Or.inl rfl) (pe_make M GI hr1 rfl T.mgC bI .nil pass0 (pa_cons (pv 0) pa_nil)))
    (pss_cons (ps_set (i := 3) nd rfl (Or.inl rfl) (pe_lst pa_nil))
    (pss_cons (ps_for PassesOwn.never rfl (pi_list (pv 1)) (pg_name (i := 4) nd rfl (Or.inl rfl)) (pss_cons (ps_expr (pe_meth (pv 2) T.cl mT GT hr bT .nil pass0 (pa_cons (pv 4) pa_nil)))
      (pss_one (ps_expr (pe_bm PySem.F.plainAttrs_list PySem.F.slot_list_append PySem.F.type_list_append mt_append (pv 3) (pa_cons (pe_callB call_len_seq (by rfl) T.len PySem.boot_len (pa_cons (pe_fld (pv 2) rfl) pa_nil)) pa_nil))))))
    (pss_one (ps_ret (pv 3))))), ?_⟩
  refine ⟨_, rfl, ?_⟩
  intro x dx nx ndx nex
  refine ⟨x, dx, p, rfl, upd_same, fun ra ta ba oa H1 A kp f1 f2 f3 f4 => ⟨rfl, ?_⟩⟩
  have s0_ : Same H (upd (upd H dx (.own x)) x (.ins C dx [])) := fun b o e => by
    rw [upd_ne (ne_of_none e nx), upd_ne (ne_of_none e ndx)]; exact e
  have s1 : Same H H1 := fun b o e => kp b o (s0_ b o e) (ne_of_none e nx)
  have ha : H a = some (.lst (ns.map V.int)) := E0.same _ _ ga
  refine ⟨by decide, fun af haf => ?_⟩
  have naf : H af = none := s1.free haf
  have s1' : Same H (upd H1 af (.lst [])) := fun b o e => by rw [upd_ne (ne_of_none e naf)]; exact s1 b o e
  obtain ⟨dx1, hx1⟩ := A.ob
  have q1 : af ≠ x := (ne_of_none hx1 haf).symm
  have q2 : af ≠ ra := (ne_of_none A.hr haf).symm
  have q3 : af ≠ ta := (ne_of_none A.ht haf).symm
  have q4 : af ≠ ba := (ne_of_none A.hb haf).symm
  have q5 : af ≠ oa := (ne_of_none A.ho haf).symm
  refine ⟨_, rfl, a, rfl, ⟨_, .inl (.inl (s1' _ _ ha))⟩, for_list (K := K) (a := a) (xs := ns.map V.int)
    (fun i σ H2 => ∃ (si : FS) (v : Option V) (ta' ba' oa' : Addr) (acc rest : List Int), σ = [some (.int p), some (.ref a), some (.ref x), some (.ref af), v] ∧ Same H H2 ∧ FAt C H2 x ra ta' ba' oa' si ∧ lensF si (ns.drop i) = some rest ∧ acc ++ rest = rs ∧ acc.length = i ∧ H2 af = some (.lst (acc.map V.int)) ∧ af ≠ ra ∧ af ≠ ta' ∧ af ≠ oa')
    ⟨startF p, none, ta, ba, oa, [], rs, rfl, s1', A.of (upd_ne q1.symm) (upd_ne q2.symm) (upd_ne q3.symm) (upd_ne q4.symm) (upd_ne q5.symm), hs, rfl, rfl, upd_same, q2, q3, q5⟩ (fun i σ H2 _ ⟨_, _, _, _, _, _, _, _, s2, _⟩ => .inl (.inl (s2 _ _ ha))) ?_ ?_⟩
  · rintro i y σ H2 hi ⟨si, v, ta', ba', oa', acc, rest, rfl, s2, B, hrun, hacc, hai, hf2, g1, g2, g3⟩
    have hil : i < ns.length := by
      have := (List.getElem?_eq_some_iff.mp hi).1
      rwa [List.length_map] at this
    obtain ⟨n, rfl, hd⟩ := drop_get hi
    rw [hd] at hrun
    cases hst : stepF si n with
    | none => simp [LR.lensF, hst] at hrun
    | some sj =>
      cases hre : lensF sj (ns.drop (i + 1)) with
      | none => simp [LR.lensF, hst, hre] at hrun
      | some rest' =>
      simp [LR.lensF, hst, hre] at hrun
      subst hrun
      obtain ⟨dy, hx⟩ := B.ob
      refine ⟨_, rfl, x, dy, _, rfl, hx, lk_no (by decide +kernel) (by decide +kernel) (by decide +kernel) (by decide +kernel), _, rfl, ?_⟩
      refine ⟨x, ra, ta', ba', oa', si, sj, n, rfl, B, hst, fun ta2 ba2 oa2 H3 B3 keep k1 k2 k3 => ?_⟩
      have nfx : af ≠ x := fun z => by rw [z, hx] at hf2; cases hf2
      have hf3 : H3 af = some (.lst (acc.map V.int)) := keep af _ hf2 nfx g1
      have s3 : Same H H3 := fun b o e => keep b o (s2 b o e) (ne_of_none e nx) (ne_of_none e (s0_.free f1))
      obtain ⟨dz, hz⟩ := B3.ob
      refine ⟨_, rfl, Or.inl ⟨rfl, _, .inl (.inl hf3)⟩, _, rfl, x, C, dz, _, _, rfl, hz, T.cl, T.nT, lk_taps, ta2, _, rfl, .inl (.inl (.inl B3.ht)), af, _, _, rfl, rfl, hf3, ?_, ?_⟩
      · rw [List.length_map, hai]; exact Nat.lt_trans (Nat.lt_trans hil hlen) (by decide)
      have nt2 : af ≠ ta2 := by
        rcases k1 with rfl | k1
        · exact g2
        · exact ne_of_none hf2 k1
      have no2 : af ≠ oa2 := by
        rcases k3 with rfl | rfl
        · exact g3
        · exact g2
      have nb2 : af ≠ ba2 := fun z => by rw [z, B3.hb] at hf3; cases hf3
      refine ⟨sj, some (.int n), ta2, ba2, oa2, acc ++ [(sj.taps.length : Int)], rest', rfl, fun b o e => ?_, B3.of (upd_ne nfx.symm) (upd_ne g1.symm) (upd_ne nt2.symm) (upd_ne nb2.symm) (upd_ne no2.symm), hre, by simpa using hacc, by simp [hai], ?_, g1, nt2, no2⟩
      · rw [upd_ne (ne_of_none e naf)]; exact s3 b o e
      · rw [upd_same, List.map_append, List.length_map]; rfl
  · rintro σ H2 ⟨si, v, ta', ba', oa', acc, rest, rfl, s2, B, hrun, hacc, hai, hf2, g1, g2, g3⟩
    rw [List.length_map, List.drop_length] at hrun
    cases hrun
    rw [List.append_nil] at hacc
    subst hacc
    have nocl : ∀ b, Cl ([V.int p, V.ref a].map some) ([LW.T.int p, .lst (ns.map LW.T.int)].map L.t) b → False := fun b z => cl_ts z
    refine ⟨_, rfl, kk (.ref af) G H2 ⟨⟨Same.refl _, fun b o e _ => s2 b o e, fun b o e _ g => g, fun b e => s2.free e, fun b e => .inl e⟩, ?_, ⟨af, _, rfl, E0.same.free naf, fun z => nocl _ z, hf2, ?_⟩, fun b e => by cases e; exact naf⟩⟩
    · exact env_ts (vs := [.int p, .ref a]) (ts := [.int p, .lst (ns.map LW.T.int)]) (E0.same.trans s2) (.cons (.int _) (.cons (.lst ga (RepAll.of_ints _)) .nil))
    · show RepAll K fa G (acc.map V.int) (acc.map LW.T.int)
      exact RepAll.of_ints _
end
end LK
namespace LK
open PySem PySem.Spec PyProof.Rows L2 LW
open LR (f_finder_of f_lengths_along)
-- def topS (i : Nat) : Stmt := PySem.Challenge.pw_latewords_k59_least_registers.main.body.getD i (.Pass ⟨0, 0, 0, 0⟩)
section
variable {P : Program} {w : World} {K : PySem.W.Frag} {mg : Str → Option Value} {base : Heap} {fa : Nat → Addr} {k : Nat} {f : Addr} {fd : FuncData}
abbrev s_least_register : Stmt := topS 13
theorem sc_least_register : FnScope ["p", "row", "finder", "other", "at", "_"] ["p", "row"] (defScope s_least_register) := ⟨rfl, rfl, rfl, by decide +kernel, rfl, by decide +kernel, by decide +kernel⟩
def E_least_register (p row finder other at_ s_ : L) : REnv := [p, row, finder, other, at_, s_]
def t_least_register_1 : DenS := (dSet 2 (dCallP 2 f_finder_of (dCons (gVar 0) (dCons (gVar 1) dNil))))
def t_least_register_2 : DenS := (dAsg (den1 (gAttr "before") (gVar 2)) (gTupT 3 (gConsT (gNameT 3) (gConsT (gNameT 4) (gConsT (gNameT 5) gNilT)))))
def t_least_register_3 : DenS := (dRet (dTup (dCons (den1 gList (den1 (gAttr "taps") (gVar 2))) (dCons (den1 gList (gVar 3)) (dCons (gVar 4) dNil)))))
def d_least_register : DenS := (dSeq t_least_register_1
  (dSeq t_least_register_2
  t_least_register_3))
def f_least_register : List T → Option L := bodyP 2 6 d_least_register
theorem ok_least_register (F : Fun K "least_register" "least_register" s_least_register f fd) (hmg : mg "least_register" = some (.ref f)) (hb : Binds K fd ["p", "row"] []) (c_finder_of : Fn P w K mg base fa k "finder_of" 2 (pureF f_finder_of)) (m_list : mg "list" = none) : Fn P w K mg base fa (k + 1) "least_register" 2 (pureF f_least_register) :=
  fn_pure (as := [2, 3, 4, 5]) (d := d_least_register) F sc_least_register hmg hb fun cdv A outer s H E hr => (SSs.cons (SS.st (i := 2) sc_least_register.nd (by rfl) (by rfl) (SE.callP c_finder_of hr (by rfl) (SA.cons (SE.v 0 (by rfl) (by rfl) (by rfl) (by rfl)) (SA.cons (SE.v 1 (by rfl) (by rfl) (by rfl) (by rfl)) SA.nil (by rfl)) (by rfl)) (by rfl) (by rfl) (by rfl)) (by rfl) (by rfl))
      (SSs.cons (SS.asg (SE.attr (SE.v 2 (by rfl) (by rfl) (by rfl) (by rfl)) (by rfl)) (SG.tup (n := 3) (by rfl) (SGs.cons (SG.n (i := 3) sc_least_register.nd (by rfl) (by rfl) (by rfl)) (SGs.cons (SG.n (i := 4) sc_least_register.nd (by rfl) (by rfl) (by rfl)) (SGs.cons (SG.n (i := 5) sc_least_register.nd (by rfl) (by rfl) (by rfl)) SGs.nil (by rfl)) (by rfl)) (by rfl)) (by rfl) (by rfl)) (by rfl) (by rfl) (by rfl))
      (SSs.one (SS.ret (SE.tup (SA.cons (SE.list1 (by rfl) m_list (SE.attr (SE.v 2 (by rfl) (by rfl) (by rfl) (by rfl)) (by rfl)) (by rfl)) (SA.cons (SE.list1 (by rfl) m_list (SE.v 3 (by rfl) (by rfl) (by rfl) (by rfl)) (by rfl)) (SA.cons (SE.v 4 (by rfl) (by rfl) (by rfl) (by rfl)) SA.nil (by rfl)) (by rfl)) (by rfl)))))))
abbrev s_are_taps : Stmt := topS 14
theorem sc_are_taps : FnScope ["p", "value"] ["p", "value"] (defScope s_are_taps) := ⟨rfl, rfl, rfl, by decide +kernel, rfl, by decide +kernel, by decide +kernel⟩
def E_are_taps (p value : L) : REnv := [p, value]
def t_are_taps_1 : DenS := (dRet (dAndV (dCallP 3 f_are_between (dCons (gVar 1) (dCons (gC (.int 0)) (dCons (den2 gSub (gVar 0) (gC (.int 1))) dNil)))) (den2 (gB gLe) (den1 gLen (gVar 1)) (gC (.int 40)))))
def d_are_taps : DenS := t_are_taps_1
def f_are_taps : List T → Option L := bodyP 2 2 d_are_taps
theorem ok_are_taps (F : Fun K "are_taps" "are_taps" s_are_taps f fd) (hmg : mg "are_taps" = some (.ref f)) (hb : Binds K fd ["p", "value"] []) (c_are_between : Fn P w K mg base fa k "are_between" 3 (pureF f_are_between)) (m_len : mg "len" = none) (g_MOST_TAPS : ∃ t, mg "MOST_TAPS" = some (Value.int 40 t)) : Fn P w K mg base fa (k + 1) "are_taps" 2 (pureF f_are_taps) :=
  fn_pure (as := []) (d := d_are_taps) F sc_are_taps hmg hb fun cdv A outer s H E hr => (SSs.one (SS.ret (SE.andV (SE.callP c_are_between hr (by rfl) (SA.cons (SE.v 1 (by rfl) (by rfl) (by rfl) (by rfl)) (SA.cons SE.int (SA.cons (SE.sub (SE.v 0 (by rfl) (by rfl) (by rfl) (by rfl)) SE.int) SA.nil (by rfl)) (by rfl)) (by rfl)) (by rfl) (by rfl) (by rfl)) (SE.one (SE.cmp (SE.len (by rfl) m_len (SE.v 1 (by rfl) (by rfl) (by rfl) (by rfl)) (by rfl)) (SE.globI (by rfl) g_MOST_TAPS (by decide)) (cmp_le) (by rfl))))))
abbrev s_shows_least_register : Stmt := topS 15
theorem sc_shows_least_register : FnScope ["p", "row", "taps", "other", "at"] ["p", "row", "taps", "other", "at"] (defScope s_shows_least_register) := ⟨rfl, rfl, rfl, by decide +kernel, rfl, by decide +kernel, by decide +kernel⟩
def E_shows_least_register (p row taps other at_ : L) : REnv := [p, row, taps, other, at_]
def b_shows_least_register_1 : DenT := (dOr (dNot (dTru (dCallP 2 f_are_taps (dCons (gVar 0) (dCons (gVar 2) dNil))))) (dOr (dNot (dTru (dCallP 2 f_are_taps (dCons (gVar 0) (dCons (gVar 3) dNil))))) (dNot (dTru (dCallP 3 f_is_between (dCons (gVar 4) (dCons (den1 gNeg (gC (.int 1))) (dCons (den2 gSub (den1 gLen (gVar 1)) (gC (.int 1))) dNil))))))))
def t_shows_least_register_1 : DenS := (dRet (gC (.bl false)))
def t_shows_least_register_2 : DenS := (dIfS b_shows_least_register_1 t_shows_least_register_1 dNx)
def b_shows_least_register_2 : DenT := (dBl (den2 (gB gLt) (gVar 4) (gC (.int 0))))
def t_shows_least_register_3 : DenS := (dRet (dAndV (den2 (gB gEq) (gVar 2) (dLst dNil)) (dAndV (den2 (gB gEq) (gVar 3) (dLst dNil)) (dNotV (den1 gAny2 (gVar 1))))))
def t_shows_least_register_4 : DenS := (dIfS b_shows_least_register_2 t_shows_least_register_3 dNx)
def b_shows_least_register_3 : DenT := (dOr (dNot (dTru (dCallP 3 f_is_row_of (dCons (gVar 0) (dCons (gVar 2) (dCons (gVar 1) dNil)))))) (dOr (dBl (den2 (gB gGt) (den1 gLen (gVar 3)) (gVar 4))) (dBl (den2 (gB gNe) (den2 gSub (den2 gAdd (gVar 4) (gC (.int 1))) (den1 gLen (gVar 3))) (den1 gLen (gVar 2))))))
def t_shows_least_register_5 : DenS := (dRet (gC (.bl false)))
def t_shows_least_register_6 : DenS := (dIfS b_shows_least_register_3 t_shows_least_register_5 dNx)
def t_shows_least_register_7 : DenS := (dRet (dAndV (dCallP 3 f_is_row_of (dCons (gVar 0) (dCons (gVar 3) (dCons (dSl (gVar 1) dNone (dSome (gVar 4))) dNil)))) (dNotV (dCallP 3 f_is_row_of (dCons (gVar 0) (dCons (gVar 3) (dCons (dSl (gVar 1) dNone (dSome (den2 gAdd (gVar 4) (gC (.int 1))))) dNil)))))))
def d_shows_least_register : DenS := (dSeq t_shows_least_register_2
  (dSeq t_shows_least_register_4
  (dSeq t_shows_least_register_6
  t_shows_least_register_7)))
def f_shows_least_register : List T → Option L := bodyP 5 5 d_shows_least_register
theorem ok_shows_least_register (F : Fun K "shows_least_register" "shows_least_register" s_shows_least_register f fd) (hmg : mg "shows_least_register" = some (.ref f)) (hb : Binds K fd ["p", "row", "taps", "other", "at"] []) (c_are_taps : Fn P w K mg base fa k "are_taps" 2 (pureF f_are_taps)) (c_is_between : Fn P w K mg base fa k "is_between" 3 (pureF f_is_between)) (c_is_row_of : Fn P w K mg base fa k "is_row_of" 3 (pureF f_is_row_of)) (m_any : mg "any" = none) (m_len : mg "len" = none) : Fn P w K mg base fa (k + 1) "shows_least_register" 5 (pureF f_shows_least_register) :=
  fn_pure (as := []) (d := d_shows_least_register) F sc_shows_least_register hmg hb fun cdv A outer s H E hr => (SSs.cons (SS.ite (SW.test (SW.or (ST.not (SE.truth (SE.callP c_are_taps hr (by rfl) (SA.cons (SE.v 0 (by rfl) (by rfl) (by rfl) (by rfl)) (SA.cons (SE.v 2 (by rfl) (by rfl) (by rfl) (by rfl)) SA.nil (by rfl)) (by rfl)) (by rfl) (by rfl) (by rfl)) (fun _ => (by rfl)))) (SW.or (ST.not (SE.truth (SE.callP c_are_taps hr (by rfl) (SA.cons (SE.v 0 (by rfl) (by rfl) (by rfl) (by rfl)) (SA.cons (SE.v 3 (by rfl) (by rfl) (by rfl) (by rfl)) SA.nil (by rfl)) (by rfl)) (by rfl) (by rfl) (by rfl)) (fun _ => (by rfl)))) (SW.or1 (ST.not (SE.truth (SE.callP c_is_between hr (by rfl) (SA.cons (SE.v 4 (by rfl) (by rfl) (by rfl) (by rfl)) (SA.cons (SE.neg SE.int) (SA.cons (SE.sub (SE.len (by rfl) m_len (SE.v 1 (by rfl) (by rfl) (by rfl) (by rfl)) (by rfl)) SE.int) SA.nil (by rfl)) (by rfl)) (by rfl)) (by rfl) (by rfl) (by rfl)) (fun _ => (by rfl)))))))) (SSs.one (SS.ret SE.bl)) SSs.nil)
      (SSs.cons (SS.ite (ST.cmp (SE.v 4 (by rfl) (by rfl) (by rfl) (by rfl)) SE.int (cmp_lt) (by rfl)) (SSs.one (SS.ret (SE.andV (SE.cmp (SE.v 2 (by rfl) (by rfl) (by rfl) (by rfl)) (SE.lst SA.nil) (cmp_eq (room64 hr)) (by rfl)) (SE.andV (SE.cmp (SE.v 3 (by rfl) (by rfl) (by rfl) (by rfl)) (SE.lst SA.nil) (cmp_eq (room64 hr)) (by rfl)) (SE.one (SE.notV (SE.any2 (by rfl) (by rfl) m_any (SE.v 1 (by rfl) (by rfl) (by rfl) (by rfl)) (by rfl)))))))) SSs.nil)
      (SSs.cons (SS.ite (SW.test (SW.or (ST.not (SE.truth (SE.callP c_is_row_of hr (by rfl) (SA.cons (SE.v 0 (by rfl) (by rfl) (by rfl) (by rfl)) (SA.cons (SE.v 2 (by rfl) (by rfl) (by rfl) (by rfl)) (SA.cons (SE.v 1 (by rfl) (by rfl) (by rfl) (by rfl)) SA.nil (by rfl)) (by rfl)) (by rfl)) (by rfl) (by rfl) (by rfl)) (fun _ => (by rfl)))) (SW.or (ST.cmp (SE.len (by rfl) m_len (SE.v 3 (by rfl) (by rfl) (by rfl) (by rfl)) (by rfl)) (SE.v 4 (by rfl) (by rfl) (by rfl) (by rfl)) (cmp_gt) (by rfl)) (SW.or1 (ST.cmp (SE.sub (SE.add (SE.v 4 (by rfl) (by rfl) (by rfl) (by rfl)) SE.int) (SE.len (by rfl) m_len (SE.v 3 (by rfl) (by rfl) (by rfl) (by rfl)) (by rfl))) (SE.len (by rfl) m_len (SE.v 2 (by rfl) (by rfl) (by rfl) (by rfl)) (by rfl)) (cmp_ne (room64 hr)) (by rfl)))))) (SSs.one (SS.ret SE.bl)) SSs.nil)
      (SSs.one (SS.ret (SE.andV (SE.callP c_is_row_of hr (by rfl) (SA.cons (SE.v 0 (by rfl) (by rfl) (by rfl) (by rfl)) (SA.cons (SE.v 3 (by rfl) (by rfl) (by rfl) (by rfl)) (SA.cons (SE.sl (SE.v 1 (by rfl) (by rfl) (by rfl) (by rfl)) SO.none (SO.some (SE.v 4 (by rfl) (by rfl) (by rfl) (by rfl)))) SA.nil (by rfl)) (by rfl)) (by rfl)) (by rfl) (by rfl) (by rfl)) (SE.one (SE.notV (SE.callP c_is_row_of hr (by rfl) (SA.cons (SE.v 0 (by rfl) (by rfl) (by rfl) (by rfl)) (SA.cons (SE.v 3 (by rfl) (by rfl) (by rfl) (by rfl)) (SA.cons (SE.sl (SE.v 1 (by rfl) (by rfl) (by rfl) (by rfl)) SO.none (SO.some (SE.add (SE.v 4 (by rfl) (by rfl) (by rfl) (by rfl)) SE.int))) SA.nil (by rfl)) (by rfl)) (by rfl)) (by rfl) (by rfl) (by rfl))))))))))
abbrev s_is_only : Stmt := topS 17
theorem sc_is_only : FnScope ["p", "row"] ["p", "row"] (defScope s_is_only) := ⟨rfl, rfl, rfl, by decide +kernel, rfl, by decide +kernel, by decide +kernel⟩
def E_is_only (p row : L) : REnv := [p, row]
def t_is_only_1 : DenS := (dRet (den2 (gB gLe) (den2 gMul (gC (.int 2)) (den1 gLen (den1 (gAttr "taps") (dCallP 2 f_finder_of (dCons (gVar 0) (dCons (gVar 1) dNil)))))) (den1 gLen (gVar 1))))
def d_is_only : DenS := t_is_only_1
def f_is_only : List T → Option L := bodyP 2 2 d_is_only
theorem ok_is_only (F : Fun K "is_only" "is_only" s_is_only f fd) (hmg : mg "is_only" = some (.ref f)) (hb : Binds K fd ["p", "row"] []) (c_finder_of : Fn P w K mg base fa k "finder_of" 2 (pureF f_finder_of)) (m_len : mg "len" = none) : Fn P w K mg base fa (k + 1) "is_only" 2 (pureF f_is_only) :=
  fn_pure (as := []) (d := d_is_only) F sc_is_only hmg hb fun cdv A outer s H E hr => (SSs.one (SS.ret (SE.cmp (SE.mul SE.int (SE.len (by rfl) m_len (SE.attr (SE.callP c_finder_of hr (by rfl) (SA.cons (SE.v 0 (by rfl) (by rfl) (by rfl) (by rfl)) (SA.cons (SE.v 1 (by rfl) (by rfl) (by rfl) (by rfl)) SA.nil (by rfl)) (by rfl)) (by rfl) (by rfl) (by rfl)) (by rfl)) (by rfl))) (SE.len (by rfl) m_len (SE.v 1 (by rfl) (by rfl) (by rfl) (by rfl)) (by rfl)) (cmp_le) (by rfl))))
abbrev s__law_feed : Stmt := topS 19
theorem sc__law_feed : FnScope ["script"] ["script"] (defScope s__law_feed) := ⟨rfl, rfl, rfl, by decide +kernel, rfl, by decide +kernel, by decide +kernel⟩
def E__law_feed (script : L) : REnv := [script]
def t__law_feed_1 : DenS := (dRet (dLst (dCons (den1 gList (gVar 0)) (dCons (gC (.int 0)) (dCons (gC (.int 0)) (dCons (gC (.int 1)) dNil))))))
def d__law_feed : DenS := t__law_feed_1
def f__law_feed : List T → Option L := bodyP 1 1 d__law_feed
theorem ok__law_feed (F : Fun K "_law_feed" "_law_feed" s__law_feed f fd) (hmg : mg "_law_feed" = some (.ref f)) (hb : Binds K fd ["script"] []) (m_list : mg "list" = none) : Fn P w K mg base fa (k + 1) "_law_feed" 1 (pureF f__law_feed) :=
  fn_pure (as := []) (d := d__law_feed) F sc__law_feed hmg hb fun cdv A outer s H E hr => (SSs.one (SS.ret (SE.lst (SA.cons (SE.list1 (by rfl) m_list (SE.v 0 (by rfl) (by rfl) (by rfl) (by rfl)) (by rfl)) (SA.cons SE.int (SA.cons SE.int (SA.cons SE.int SA.nil (by rfl)) (by rfl)) (by rfl)) (by rfl)))))
abbrev s__law_draw : Stmt := topS 20
theorem sc__law_draw : FnScope ["feed", "many", "cell", "told", "mixed"] ["feed", "many"] (defScope s__law_draw) := ⟨rfl, rfl, rfl, by decide +kernel, rfl, by decide +kernel, by decide +kernel⟩
def E__law_draw (feed many cell told mixed : L) : REnv := [feed, many, cell, told, mixed]
def b__law_draw_1 : DenT := (dAnd (dBl (den2 (gB gEq) (den2 gIx (gVar 0) (gC (.int 2))) (gC (.int 0)))) (dBl (den2 (gB gLt) (den2 gIx (gVar 0) (gC (.int 1))) (den1 gLen (den2 gIx (gVar 0) (gC (.int 0)))))))
def t__law_draw_1 : DenS := (dSet 2 (den1 gAbs (den1 gInt (den2 gIx (den2 gIx (gVar 0) (gC (.int 0))) (den2 gIx (gVar 0) (gC (.int 1)))))))
def t__law_draw_2 : DenS := (dAugS 0 gIAdd (gC (.int 1)) (gC (.int 1)))
def b__law_draw_2 : DenT := (dBl (den2 (gB gGe) (gVar 2) (den2 gPow (gC (.int 10)) (gC (.int 18)))))
def t__law_draw_3 : DenS := (dAsg (gVar 2) (gSubT 0 (gC (.int 2))))
def t__law_draw_4 : DenS := (dAsg (den2 gMod (den1 gInt (den2 gAdd (den2 gAdd (den2 gMul (den2 gIx (gVar 0) (gC (.int 3))) (gC (.int 48271))) (den2 gMul (gVar 2) (gC (.int 69621)))) (den2 gIx (gVar 0) (gC (.int 1))))) (gC (.int 2147483647))) (gSubT 0 (gC (.int 3))))
def t__law_draw_5 : DenS := (dIfS b__law_draw_2 t__law_draw_3 t__law_draw_4)
def t__law_draw_6 : DenS := (dIfS b__law_draw_1 (dSeq t__law_draw_1
  (dSeq t__law_draw_2
  t__law_draw_5)) dNx)
def b__law_draw_3 : DenT := (dBl (den2 (gB gGt) (den2 gIx (gVar 0) (gC (.int 2))) (gC (.int 0))))
def t__law_draw_7 : DenS := (dSet 3 (den2 gMod (den1 gInt (den2 gIx (gVar 0) (gC (.int 2)))) (gVar 1)))
def t__law_draw_8 : DenS := (dAsg (den2 gDiv (den2 gIx (gVar 0) (gC (.int 2))) (gVar 1)) (gSubT 0 (gC (.int 2))))
def t__law_draw_9 : DenS := (dRet (gVar 3))
def t__law_draw_10 : DenS := (dIfS b__law_draw_3 (dSeq t__law_draw_7
  (dSeq t__law_draw_8
  t__law_draw_9)) dNx)
def t__law_draw_11 : DenS := (dAsg (den2 gMod (den1 gInt (den2 gAdd (den2 gMul (den2 gIx (gVar 0) (gC (.int 3))) (gC (.int 16807))) (gC (.int 12345)))) (gC (.int 2147483647))) (gSubT 0 (gC (.int 3))))
def t__law_draw_12 : DenS := (dSet 4 (den2 gMod (den1 gInt (den2 gAdd (den2 gMul (den2 gIx (gVar 0) (gC (.int 3))) (den2 gIx (gVar 0) (gC (.int 3)))) (den2 gIx (gVar 0) (gC (.int 3))))) (gC (.int 2147483629))))
def t__law_draw_13 : DenS := (dRet (den2 gMod (den2 gDiv (gVar 4) (gC (.int 11))) (gVar 1)))
def d__law_draw : DenS := (dSeq t__law_draw_6
  (dSeq t__law_draw_10
  (dSeq t__law_draw_11
  (dSeq t__law_draw_12
  t__law_draw_13))))
def g__law_draw : List T → List T → Option (L × List T) := bodyF 2 5 [2, 3, 4] d__law_draw
theorem ok__law_draw (F : Fun K "_law_draw" "_law_draw" s__law_draw f fd) (hmg : mg "_law_draw" = some (.ref f)) (hb : Binds K fd ["feed", "many"] []) (m_abs : mg "abs" = none) (m_int : mg "int" = none) (m_len : mg "len" = none) : Fn P w K mg base fa (k + 1) "_law_draw" 2 (feedF g__law_draw) :=
  fn_feed (as := [2, 3, 4]) (d := d__law_draw) F sc__law_draw hmg hb fun cdv A outer s H E hr => (SSs.cons (SS.ite (SW.test (SW.and (ST.cmp (SE.ix (SE.v 0 (by rfl) (by rfl) (by rfl) (by rfl)) SE.int (fun _ _ => (by rfl))) SE.int (cmp_eq (room64 hr)) (by rfl)) (SW.and1 (ST.cmp (SE.ix (SE.v 0 (by rfl) (by rfl) (by rfl) (by rfl)) SE.int (fun _ _ => (by rfl))) (SE.len (by rfl) m_len (SE.ix (SE.v 0 (by rfl) (by rfl) (by rfl) (by rfl)) SE.int (fun _ _ => (by rfl))) (by rfl)) (cmp_lt) (by rfl))))) (SSs.cons (SS.st (i := 2) sc__law_draw.nd (by rfl) (by rfl) (SE.abs (by rfl) m_abs (SE.int1 (by rfl) m_int (SE.ix (SE.ix (SE.v 0 (by rfl) (by rfl) (by rfl) (by rfl)) SE.int (fun _ _ => (by rfl))) (SE.ix (SE.v 0 (by rfl) (by rfl) (by rfl) (by rfl)) SE.int (fun _ _ => (by rfl))) (fun _ _ => (by rfl))) (by rfl)) (by rfl)) (by rfl) (by rfl))
      (SSs.cons (SS.augS (j := 0) (by rfl) (vis_of (by rfl)) (by rfl) (by rfl) SE.int SE.int iop_addT opt_iadd (fun _ _ _ => (by rfl)))
      (SSs.one (SS.ite (ST.cmp (SE.v 2 (by rfl) (by rfl) (by rfl) (by rfl)) (SE.pow SE.int SE.int) (cmp_ge) (by rfl)) (SSs.one (SS.asgM (SE.v 2 (by rfl) (by rfl) (by rfl) (by rfl)) (SM.sub (j := 0) (by rfl) (vis_of (by rfl)) (by rfl) (by rfl) SE.int (fun _ => (by rfl))) (by rfl) (by rfl) (by rfl))) (SSs.one (SS.asgM (SE.mod (SE.int1 (by rfl) m_int (SE.add (SE.add (SE.mul (SE.ix (SE.v 0 (by rfl) (by rfl) (by rfl) (by rfl)) SE.int (fun _ _ => (by rfl))) SE.int) (SE.mul (SE.v 2 (by rfl) (by rfl) (by rfl) (by rfl)) SE.int)) (SE.ix (SE.v 0 (by rfl) (by rfl) (by rfl) (by rfl)) SE.int (fun _ _ => (by rfl)))) (by rfl)) SE.int) (SM.sub (j := 0) (by rfl) (vis_of (by rfl)) (by rfl) (by rfl) SE.int (fun _ => (by rfl))) (by rfl) (by rfl) (by rfl))))))) SSs.nil)
      (SSs.cons (SS.ite (ST.cmp (SE.ix (SE.v 0 (by rfl) (by rfl) (by rfl) (by rfl)) SE.int (fun _ _ => (by rfl))) SE.int (cmp_gt) (by rfl)) (SSs.cons (SS.st (i := 3) sc__law_draw.nd (by rfl) (by rfl) (SE.mod (SE.int1 (by rfl) m_int (SE.ix (SE.v 0 (by rfl) (by rfl) (by rfl) (by rfl)) SE.int (fun _ _ => (by rfl))) (by rfl)) (SE.v 1 (by rfl) (by rfl) (by rfl) (by rfl))) (by rfl) (by rfl))
      (SSs.cons (SS.asgM (SE.div (SE.ix (SE.v 0 (by rfl) (by rfl) (by rfl) (by rfl)) SE.int (fun _ _ => (by rfl))) (SE.v 1 (by rfl) (by rfl) (by rfl) (by rfl))) (SM.sub (j := 0) (by rfl) (vis_of (by rfl)) (by rfl) (by rfl) SE.int (fun _ => (by rfl))) (by rfl) (by rfl) (by rfl))
      (SSs.one (SS.ret (SE.v 3 (by rfl) (by rfl) (by rfl) (by rfl)))))) SSs.nil)
      (SSs.cons (SS.asgM (SE.mod (SE.int1 (by rfl) m_int (SE.add (SE.mul (SE.ix (SE.v 0 (by rfl) (by rfl) (by rfl) (by rfl)) SE.int (fun _ _ => (by rfl))) SE.int) SE.int) (by rfl)) SE.int) (SM.sub (j := 0) (by rfl) (vis_of (by rfl)) (by rfl) (by rfl) SE.int (fun _ => (by rfl))) (by rfl) (by rfl) (by rfl))
      (SSs.cons (SS.st (i := 4) sc__law_draw.nd (by rfl) (by rfl) (SE.mod (SE.int1 (by rfl) m_int (SE.add (SE.mul (SE.ix (SE.v 0 (by rfl) (by rfl) (by rfl) (by rfl)) SE.int (fun _ _ => (by rfl))) (SE.ix (SE.v 0 (by rfl) (by rfl) (by rfl) (by rfl)) SE.int (fun _ _ => (by rfl)))) (SE.ix (SE.v 0 (by rfl) (by rfl) (by rfl) (by rfl)) SE.int (fun _ _ => (by rfl)))) (by rfl)) SE.int) (by rfl) (by rfl))
      (SSs.one (SS.ret (SE.mod (SE.div (SE.v 4 (by rfl) (by rfl) (by rfl) (by rfl)) SE.int) (SE.v 1 (by rfl) (by rfl) (by rfl) (by rfl)))))))))
abbrev s__law_same : Stmt := topS 21
theorem sc__law_same : FnScope ["told", "due", "k"] ["told", "due"] (defScope s__law_same) := ⟨rfl, rfl, rfl, by decide +kernel, rfl, by decide +kernel, by decide +kernel⟩
def E__law_same (told due k : L) : REnv := [told, due, k]
def b__law_same_1 (fr : List T → Option L) : DenT := (dOr (dTru (den1 (gIsi "list") (gVar 1))) (dTru (den1 (gIsi "tuple") (gVar 1))))
def b__law_same_2 (fr : List T → Option L) : DenT := (dOr (dBl (den2 (gB gNe) (den1 (gIsi "list") (gVar 0)) (den1 (gIsi "list") (gVar 1)))) (dBl (den2 (gB gNe) (den1 (gIsi "tuple") (gVar 0)) (den1 (gIsi "tuple") (gVar 1)))))
def t__law_same_1 (fr : List T → Option L) : DenS := (dRet (gC (.bl false)))
def t__law_same_2 (fr : List T → Option L) : DenS := (dIfS (b__law_same_2 fr) (t__law_same_1 fr) dNx)
def b__law_same_3 (fr : List T → Option L) : DenT := (dBl (den2 (gB gNe) (den1 gLen (gVar 0)) (den1 gLen (gVar 1))))
def t__law_same_3 (fr : List T → Option L) : DenS := (dRet (gC (.bl false)))
def t__law_same_4 (fr : List T → Option L) : DenS := (dIfS (b__law_same_3 fr) (t__law_same_3 fr) dNx)
def b__law_same_4 (fr : List T → Option L) : DenT := (dNot (dTru (dCallP 2 fr (dCons (den2 gIx (gVar 0) (gVar 2)) (dCons (den2 gIx (gVar 1) (gVar 2)) dNil)))))
def t__law_same_5 (fr : List T → Option L) : DenS := (dRet (gC (.bl false)))
def t__law_same_6 (fr : List T → Option L) : DenS := (dIfS (b__law_same_4 fr) (t__law_same_5 fr) dNx)
def l__law_same_1 (fr : List T → Option L) : DenS := (t__law_same_6 fr)
def t__law_same_7 (fr : List T → Option L) : DenS := (dFor [2] (iRange1 (dCons (den1 gLen (gVar 1)) dNil)) (gNameT 2) (l__law_same_1 fr))
def t__law_same_8 (fr : List T → Option L) : DenS := (dRet (gC (.bl true)))
def t__law_same_9 (fr : List T → Option L) : DenS := (dIfS (b__law_same_1 fr) (dSeq (t__law_same_2 fr)
  (dSeq (t__law_same_4 fr)
  (dSeq (t__law_same_7 fr)
  (t__law_same_8 fr)))) dNx)
def b__law_same_5 (fr : List T → Option L) : DenT := (dOr (dBl (den2 (gB gNe) (den2 (gB gIs) (gVar 0) (gC .non)) (den2 (gB gIs) (gVar 1) (gC .non)))) (dBl (den2 (gB gNe) (den1 (gIsi "bool") (gVar 0)) (den1 (gIsi "bool") (gVar 1)))))
def t__law_same_10 (fr : List T → Option L) : DenS := (dRet (gC (.bl false)))
def t__law_same_11 (fr : List T → Option L) : DenS := (dIfS (b__law_same_5 fr) (t__law_same_10 fr) dNx)
def t__law_same_12 (fr : List T → Option L) : DenS := (dRet (dAndV (den2 (gB gEq) (den1 (gIsi "int") (gVar 0)) (den1 (gIsi "int") (gVar 1))) (dAndV (den2 (gB gEq) (den1 (gIsi "str") (gVar 0)) (den1 (gIsi "str") (gVar 1))) (den2 (gB gEq) (gVar 0) (gVar 1)))))
def d__law_same (fr : List T → Option L) : DenS := (dSeq (t__law_same_9 fr)
  (dSeq (t__law_same_11 fr)
  (t__law_same_12 fr)))
def f__law_same : Nat → List T → Option L
  | 0 => fun _ => none
  | q + 1 => bodyP 2 3 (d__law_same (f__law_same q))
theorem ok__law_same {fr : List T → Option L} (F : Fun K "_law_same" "_law_same" s__law_same f fd) (hmg : mg "_law_same" = some (.ref f)) (hb : Binds K fd ["told", "due"] []) (c__law_same : Fn P w K mg base fa k "_law_same" 2 (pureF fr)) (m_bool : mg "bool" = none) (m_int : mg "int" = none) (m_isinstance : mg "isinstance" = none) (m_len : mg "len" = none) (m_list : mg "list" = none) (m_range : mg "range" = none) (m_str : mg "str" = none) (m_tuple : mg "tuple" = none) : Fn P w K mg base fa (k + 1) "_law_same" 2 (pureF (bodyP 2 3 (d__law_same fr))) :=
  fn_pure (as := [2]) (d := (d__law_same fr)) F sc__law_same hmg hb fun cdv A outer s H E hr => (SSs.cons (SS.ite (SW.test (SW.or (SE.truth (SE.isi (by rfl) m_isinstance (by rfl) m_list (by decide +kernel) (by decide) (by rfl) (SE.v 1 (by rfl) (by rfl) (by rfl) (by rfl)) (by rfl)) (fun _ => (by rfl))) (SW.or1 (SE.truth (SE.isi (by rfl) m_isinstance (by rfl) m_tuple (by decide +kernel) (by decide) (by rfl) (SE.v 1 (by rfl) (by rfl) (by rfl) (by rfl)) (by rfl)) (fun _ => (by rfl)))))) (SSs.cons (SS.ite (SW.test (SW.or (ST.cmp (SE.isi (by rfl) m_isinstance (by rfl) m_list (by decide +kernel) (by decide) (by rfl) (SE.v 0 (by rfl) (by rfl) (by rfl) (by rfl)) (by rfl)) (SE.isi (by rfl) m_isinstance (by rfl) m_list (by decide +kernel) (by decide) (by rfl) (SE.v 1 (by rfl) (by rfl) (by rfl) (by rfl)) (by rfl)) (cmp_ne (room64 hr)) (by rfl)) (SW.or1 (ST.cmp (SE.isi (by rfl) m_isinstance (by rfl) m_tuple (by decide +kernel) (by decide) (by rfl) (SE.v 0 (by rfl) (by rfl) (by rfl) (by rfl)) (by rfl)) (SE.isi (by rfl) m_isinstance (by rfl) m_tuple (by decide +kernel) (by decide) (by rfl) (SE.v 1 (by rfl) (by rfl) (by rfl) (by rfl)) (by rfl)) (cmp_ne (room64 hr)) (by rfl))))) (SSs.one (SS.ret SE.bl)) SSs.nil)
      (SSs.cons (SS.ite (ST.cmp (SE.len (by rfl) m_len (SE.v 0 (by rfl) (by rfl) (by rfl) (by rfl)) (by rfl)) (SE.len (by rfl) m_len (SE.v 1 (by rfl) (by rfl) (by rfl) (by rfl)) (by rfl)) (cmp_ne (room64 hr)) (by rfl)) (SSs.one (SS.ret SE.bl)) SSs.nil)
      (SSs.cons (SS.for PassesOwn.never (by rfl) (SI.range1 (by rfl) m_range (SA.cons (SE.len (by rfl) m_len (SE.v 1 (by rfl) (by rfl) (by rfl) (by rfl)) (by rfl)) SA.nil (by rfl)) (by rfl)) (SG.n (i := 2) sc__law_same.nd (by rfl) (by rfl) (by rfl)) (SSs.one (SS.ite (ST.not (SE.truth (SE.callP c__law_same hr (by rfl) (SA.cons (SE.ix (SE.v 0 (by rfl) (by rfl) (by rfl) (by rfl)) (SE.v 2 (by rfl) (by rfl) (by rfl) (by rfl)) (fun _ _ => (by rfl))) (SA.cons (SE.ix (SE.v 1 (by rfl) (by rfl) (by rfl) (by rfl)) (SE.v 2 (by rfl) (by rfl) (by rfl) (by rfl)) (fun _ _ => (by rfl))) SA.nil (by rfl)) (by rfl)) (by rfl) (by rfl) (by rfl)) (fun _ => (by rfl)))) (SSs.one (SS.ret SE.bl)) SSs.nil)) (fun _ => (by rfl)))
      (SSs.one (SS.ret SE.bl))))) SSs.nil)
      (SSs.cons (SS.ite (SW.test (SW.or (ST.cmp (SE.cmp (SE.v 0 (by rfl) (by rfl) (by rfl) (by rfl)) SE.non (cmp_is) (by rfl)) (SE.cmp (SE.v 1 (by rfl) (by rfl) (by rfl) (by rfl)) SE.non (cmp_is) (by rfl)) (cmp_ne (room64 hr)) (by rfl)) (SW.or1 (ST.cmp (SE.isi (by rfl) m_isinstance (by rfl) m_bool (by decide +kernel) (by decide) (by rfl) (SE.v 0 (by rfl) (by rfl) (by rfl) (by rfl)) (by rfl)) (SE.isi (by rfl) m_isinstance (by rfl) m_bool (by decide +kernel) (by decide) (by rfl) (SE.v 1 (by rfl) (by rfl) (by rfl) (by rfl)) (by rfl)) (cmp_ne (room64 hr)) (by rfl))))) (SSs.one (SS.ret SE.bl)) SSs.nil)
      (SSs.one (SS.ret (SE.andV (SE.cmp (SE.isi (by rfl) m_isinstance (by rfl) m_int (by decide +kernel) (by decide) (by rfl) (SE.v 0 (by rfl) (by rfl) (by rfl) (by rfl)) (by rfl)) (SE.isi (by rfl) m_isinstance (by rfl) m_int (by decide +kernel) (by decide) (by rfl) (SE.v 1 (by rfl) (by rfl) (by rfl) (by rfl)) (by rfl)) (cmp_eq (room64 hr)) (by rfl)) (SE.andV (SE.cmp (SE.isi (by rfl) m_isinstance (by rfl) m_str (by decide +kernel) (by decide) (by rfl) (SE.v 0 (by rfl) (by rfl) (by rfl) (by rfl)) (by rfl)) (SE.isi (by rfl) m_isinstance (by rfl) m_str (by decide +kernel) (by decide) (by rfl) (SE.v 1 (by rfl) (by rfl) (by rfl) (by rfl)) (by rfl)) (cmp_eq (room64 hr)) (by rfl)) (SE.one (SE.cmp (SE.v 0 (by rfl) (by rfl) (by rfl) (by rfl)) (SE.v 1 (by rfl) (by rfl) (by rfl) (by rfl)) (cmp_eq (room64 hr)) (by rfl)))))))))
abbrev s__law_drawn_numbers : Stmt := topS 22
theorem sc__law_drawn_numbers : FnScope ["feed", "p", "many", "k"] ["feed", "p", "many"] (defScope s__law_drawn_numbers) := ⟨rfl, rfl, rfl, by decide +kernel, rfl, by decide +kernel, by decide +kernel⟩
def E__law_drawn_numbers (feed p many k : L) : REnv := [feed, p, many, k]
def c__law_drawn_numbers_1 : Den := (compD (iRange1 (dCons (gVar 2) dNil)) [3] (gNameT 3) dYes (dCallF 2 0 g__law_draw (dCons (gVar 1) dNil)))
def t__law_drawn_numbers_1 : DenS := (dRet c__law_drawn_numbers_1)
def d__law_drawn_numbers : DenS := t__law_drawn_numbers_1
def g__law_drawn_numbers : List T → List T → Option (L × List T) := bodyF 3 4 [] d__law_drawn_numbers
theorem ok__law_drawn_numbers (F : Fun K "_law_drawn_numbers" "_law_drawn_numbers" s__law_drawn_numbers f fd) (hmg : mg "_law_drawn_numbers" = some (.ref f)) (hb : Binds K fd ["feed", "p", "many"] []) (c__law_draw : Fn P w K mg base fa k "_law_draw" 2 (feedF g__law_draw)) (m_range : mg "range" = none) : Fn P w K mg base fa (k + 1) "_law_drawn_numbers" 3 (feedF g__law_drawn_numbers) :=
  fn_feed (as := []) (d := d__law_drawn_numbers) F sc__law_drawn_numbers hmg hb fun cdv A outer s H E hr => (SSs.one (SS.ret (SE.lc (by rfl) (by rfl) sc__law_drawn_numbers.nd (SI.range1 (by rfl) m_range (SA.cons (SE.v 2 (by rfl) (by rfl) (by rfl) (by rfl)) SA.nil (by rfl)) (by rfl)) (blkOk_by (own := [("k", 3)]) (N := ["feed", "p", "many", "k"]) (sc := defScope s__law_drawn_numbers) (by decide +kernel)) (by decide) (fun _ _ _ _ _ => (SG.n (i := 3) sc__law_drawn_numbers.nd (by rfl) (by rfl) (by rfl))) (fun _ _ _ _ _ => STs.nil) (fun _ _ _ _ _ => (SE.callF c__law_draw hr (by rfl) (i := 0) (by rfl) (vis_of (by rfl)) (by rfl) (by rfl) (SA.cons (SE.v 1 (by rfl) (by rfl) (by rfl) (by rfl)) SA.nil (by rfl)) (by rfl) (by rfl) (by rfl))) (fun _ => (by rfl)))))
abbrev s__law_no_register : Stmt := topS 23
theorem sc__law_no_register : FnScope ["p", "row", "size", "left", "n", "j", "at", "found", "i", "own", "k", "x", "often", "c", "line"] ["p", "row", "size"] (defScope s__law_no_register) := ⟨rfl, rfl, rfl, by decide +kernel, rfl, by decide +kernel, by decide +kernel⟩
def E__law_no_register (p row size left n j at_ found i own k x often c line : L) : REnv := [p, row, size, left, n, j, at_, found, i, own, k, x, often, c, line]
def t__law_no_register_1 : DenS := (dSet 3 (dLst dNil))
def c__law_no_register_1 : Den := (compD (iRange1 (dCons (gVar 2) dNil)) [5] (gNameT 5) dYes (den2 gIx (gVar 1) (den2 gSub (den2 gSub (gVar 4) (gC (.int 1))) (gVar 5))))
def t__law_no_register_2 : DenS := (dDrop (dMeth 3 fAppend (dCons (den2 gAdd c__law_no_register_1 (dLst (dCons (den2 gIx (gVar 1) (gVar 4)) dNil))) dNil)))
def l__law_no_register_1 : DenS := t__law_no_register_2
def t__law_no_register_3 : DenS := (dFor [4] (iRange2 (dCons (gVar 2) (dCons (den1 gLen (gVar 1)) dNil))) (gNameT 4) l__law_no_register_1)
def t__law_no_register_4 : DenS := (dSet 6 (gC (.int 0)))
def c__law_no_register_2 : Den := (compD (iRange2 (dCons (gVar 6) (dCons (den1 gLen (gVar 3)) dNil))) [8] (gNameT 8) (dBl (den2 (gB gNe) (den2 gIx (den2 gIx (gVar 3) (gVar 8)) (gVar 5)) (gC (.int 0)))) (gVar 8))
def t__law_no_register_5 : DenS := (dSet 7 c__law_no_register_2)
def b__law_no_register_1 : DenT := (dBl (den2 (gB gGt) (den1 gLen (gVar 7)) (gC (.int 0))))
def t__law_no_register_6 : DenS := (dSet 9 (den2 gIx (gVar 3) (den2 gIx (gVar 7) (gC (.int 0)))))
def t__law_no_register_7 : DenS := (dAsg (den2 gIx (gVar 3) (gVar 6)) (gSubT 3 (den2 gIx (gVar 7) (gC (.int 0)))))
def c__law_no_register_3 : Den := (compD (iRange1 (dCons (gVar 0) dNil)) [11] (gNameT 11) (dBl (den2 (gB gEq) (den2 gMod (den1 gInt (den2 gMul (gVar 11) (den2 gIx (gVar 9) (gVar 5)))) (gVar 0)) (gC (.int 1)))) (gVar 11))
def t__law_no_register_8 : DenS := (dSet 10 (den2 gIx c__law_no_register_3 (gC (.int 0))))
def c__law_no_register_4 : Den := (compD (iSeq (gVar 9)) [11] (gNameT 11) dYes (den2 gMod (den1 gInt (den2 gMul (gVar 11) (gVar 10))) (gVar 0)))
def t__law_no_register_9 : DenS := (dSet 9 c__law_no_register_4)
def t__law_no_register_10 : DenS := (dAsg (dFrz 9) (gSubT 3 (gVar 6)))
def b__law_no_register_2 : DenT := (dAnd (dBl (den2 (gB gGt) (gVar 8) (gVar 6))) (dBl (den2 (gB gNe) (den2 gIx (den2 gIx (gVar 3) (gVar 8)) (gVar 5)) (gC (.int 0)))))
def t__law_no_register_11 : DenS := (dSet 12 (den2 gIx (den2 gIx (gVar 3) (gVar 8)) (gVar 5)))
def c__law_no_register_5 : Den := (compD (iRange1 (dCons (den2 gAdd (gVar 2) (gC (.int 1))) dNil)) [13] (gNameT 13) dYes (den2 gMod (den1 gInt (den2 gSub (den2 gIx (den2 gIx (gVar 3) (gVar 8)) (gVar 13)) (den2 gMul (gVar 12) (den2 gIx (gVar 9) (gVar 13))))) (gVar 0)))
def t__law_no_register_12 : DenS := (dAsg c__law_no_register_5 (gSubT 3 (gVar 8)))
def t__law_no_register_13 : DenS := (dIfS b__law_no_register_2 (dSeq t__law_no_register_11
  t__law_no_register_12) dNx)
def l__law_no_register_2 : DenS := t__law_no_register_13
def t__law_no_register_14 : DenS := (dFor [8, 12] (iSeq (gVar 7)) (gNameT 8) l__law_no_register_2)
def t__law_no_register_15 : DenS := (dAug 6 gIAdd (gC (.int 1)))
def t__law_no_register_16 : DenS := (dIfS b__law_no_register_1 (dSeq t__law_no_register_6
  (dSeq t__law_no_register_7
  (dSeq t__law_no_register_8
  (dSeq t__law_no_register_9
  (dSeq t__law_no_register_10
  (dSeq t__law_no_register_14
  t__law_no_register_15)))))) dNx)
def l__law_no_register_3 : DenS := (dSeq t__law_no_register_5
  t__law_no_register_16)
def t__law_no_register_17 : DenS := (dFor [5, 7, 9, 10, 9, 8, 12, 6] (iRange1 (dCons (gVar 2) dNil)) (gNameT 5) l__law_no_register_3)
def c__law_no_register_6 : Den := (compD (iSeq (dSl (gVar 3) (dSome (gVar 6)) dNone)) [14] (gNameT 14) (dBl (den2 (gB gNe) (den2 gIx (gVar 14) (gVar 2)) (gC (.int 0)))) (gVar 14))
def t__law_no_register_18 : DenS := (dRet (den2 (gB gGt) (den1 gLen c__law_no_register_6) (gC (.int 0))))
def d__law_no_register : DenS := (dSeq t__law_no_register_1
  (dSeq t__law_no_register_3
  (dSeq t__law_no_register_4
  (dSeq t__law_no_register_17
  t__law_no_register_18))))
def f__law_no_register : List T → Option L := bodyP 3 15 d__law_no_register
theorem ok__law_no_register (F : Fun K "_law_no_register" "_law_no_register" s__law_no_register f fd) (hmg : mg "_law_no_register" = some (.ref f)) (hb : Binds K fd ["p", "row", "size"] []) (m_int : mg "int" = none) (m_len : mg "len" = none) (m_range : mg "range" = none) : Fn P w K mg base fa (k + 1) "_law_no_register" 3 (pureF f__law_no_register) :=
  fn_pure (as := [3, 4, 6, 5, 7, 9, 10, 9, 8, 12, 6]) (d := d__law_no_register) F sc__law_no_register hmg hb fun cdv A outer s H E hr => (SSs.cons (SS.st (i := 3) sc__law_no_register.nd (by rfl) (by rfl) (SE.lst SA.nil) (by rfl) (by rfl))
      (SSs.cons (SS.for PassesOwn.never (by rfl) (SI.range2 (by rfl) m_range (SA.cons (SE.v 2 (by rfl) (by rfl) (by rfl) (by rfl)) (SA.cons (SE.len (by rfl) m_len (SE.v 1 (by rfl) (by rfl) (by rfl) (by rfl)) (by rfl)) SA.nil (by rfl)) (by rfl)) (by rfl) (by rfl)) (SG.n (i := 4) sc__law_no_register.nd (by rfl) (by rfl) (by rfl)) (SSs.one (SS.expr (SE.meth (i := 3) PySem.F.slot_list_append PySem.F.type_list_append mt_append me_append (by rfl) (vis_of (by rfl)) (by rfl) (by rfl) (SA.cons (SE.add (SE.lc (by rfl) (by rfl) sc__law_no_register.nd (SI.range1 (by rfl) m_range (SA.cons (SE.v 2 (by rfl) (by rfl) (by rfl) (by rfl)) SA.nil (by rfl)) (by rfl)) (blkOk_by (own := [("j", 5)]) (N := ["p", "row", "size", "left", "n", "j", "at", "found", "i", "own", "k", "x", "often", "c", "line"]) (sc := defScope s__law_no_register) (by decide +kernel)) (by decide) (fun _ _ _ _ _ => (SG.n (i := 5) sc__law_no_register.nd (by rfl) (by rfl) (by rfl))) (fun _ _ _ _ _ => STs.nil) (fun _ _ _ _ _ => (SE.ix (SE.v 1 (by rfl) (by rfl) (by rfl) (by rfl)) (SE.sub (SE.sub (SE.v 4 (by rfl) (by rfl) (by rfl) (by rfl)) SE.int) (SE.v 5 (by rfl) (by rfl) (by rfl) (by rfl))) (fun _ _ => (by rfl)))) (fun _ => (by rfl))) (SE.lst (SA.cons (SE.ix (SE.v 1 (by rfl) (by rfl) (by rfl) (by rfl)) (SE.v 4 (by rfl) (by rfl) (by rfl) (by rfl)) (fun _ _ => (by rfl))) SA.nil (by rfl)))) SA.nil (by rfl)) (by rfl) (by rfl) (by rfl) (by rfl)) (by rfl))) (fun _ => (by rfl)))
      (SSs.cons (SS.st (i := 6) sc__law_no_register.nd (by rfl) (by rfl) SE.int (by rfl) (by rfl))
      (SSs.cons (SS.for PassesOwn.never (by rfl) (SI.range1 (by rfl) m_range (SA.cons (SE.v 2 (by rfl) (by rfl) (by rfl) (by rfl)) SA.nil (by rfl)) (by rfl)) (SG.n (i := 5) sc__law_no_register.nd (by rfl) (by rfl) (by rfl)) (SSs.cons (SS.lc (i := 7) (by rfl) (by rfl) sc__law_no_register.nd (by rfl) (by rfl) (sw_true (by rfl) (by rfl) (by rfl) (by decide +kernel)) (SI.range2 (by rfl) m_range (SA.cons (SE.v 6 (by rfl) (by rfl) (by rfl) (by rfl)) (SA.cons (SE.len (by rfl) m_len (SE.v 3 (by rfl) (by rfl) (by rfl) (by rfl)) (by rfl)) SA.nil (by rfl)) (by rfl)) (by rfl) (by rfl)) (blkOk_by (own := [("i", 8)]) (N := ["p", "row", "size", "left", "n", "j", "at", "found", "i", "own", "k", "x", "often", "c", "line"]) (sc := defScope s__law_no_register) (by decide +kernel)) (by decide) (fun _ _ _ _ _ => (SG.n (i := 8) sc__law_no_register.nd (by rfl) (by rfl) (by rfl))) (fun _ _ _ _ _ => (STs.one (ST.cmp (SE.ix (SE.ix (SE.v 3 (by rfl) (by rfl) (by rfl) (by rfl)) (SE.v 8 (by rfl) (by rfl) (by rfl) (by rfl)) (fun _ _ => (by rfl))) (SE.v 5 (by rfl) (by rfl) (by rfl) (by rfl)) (fun _ _ => (by rfl))) SE.int (cmp_ne (room64 hr)) (by rfl)))) (fun _ _ _ _ _ => (SE.v 8 (by rfl) (by rfl) (by rfl) (by rfl))) (fun _ => (by rfl)))
      (SSs.one (SS.ite (ST.cmp (SE.len (by rfl) m_len (SE.v 7 (by rfl) (by rfl) (by rfl) (by rfl)) (by rfl)) SE.int (cmp_gt) (by rfl)) (SSs.cons (SS.st (i := 9) sc__law_no_register.nd (by rfl) (by rfl) (SE.ix (SE.v 3 (by rfl) (by rfl) (by rfl) (by rfl)) (SE.ix (SE.v 7 (by rfl) (by rfl) (by rfl) (by rfl)) SE.int (fun _ _ => (by rfl))) (fun _ _ => (by rfl))) (by rfl) (by rfl))
      (SSs.cons (SS.asgM (SE.ix (SE.v 3 (by rfl) (by rfl) (by rfl) (by rfl)) (SE.v 6 (by rfl) (by rfl) (by rfl) (by rfl)) (fun _ _ => (by rfl))) (SM.sub (j := 3) (by rfl) (vis_of (by rfl)) (by rfl) (by rfl) (SE.ix (SE.v 7 (by rfl) (by rfl) (by rfl) (by rfl)) SE.int (fun _ _ => (by rfl))) (fun _ => (by rfl))) (by rfl) (by rfl) (by rfl))
      (SSs.cons (SS.st (i := 10) sc__law_no_register.nd (by rfl) (by rfl) (SE.ix (SE.lc (by rfl) (by rfl) sc__law_no_register.nd (SI.range1 (by rfl) m_range (SA.cons (SE.v 0 (by rfl) (by rfl) (by rfl) (by rfl)) SA.nil (by rfl)) (by rfl)) (blkOk_by (own := [("x", 11)]) (N := ["p", "row", "size", "left", "n", "j", "at", "found", "i", "own", "k", "x", "often", "c", "line"]) (sc := defScope s__law_no_register) (by decide +kernel)) (by decide) (fun _ _ _ _ _ => (SG.n (i := 11) sc__law_no_register.nd (by rfl) (by rfl) (by rfl))) (fun _ _ _ _ _ => (STs.one (ST.cmp (SE.mod (SE.int1 (by rfl) m_int (SE.mul (SE.v 11 (by rfl) (by rfl) (by rfl) (by rfl)) (SE.ix (SE.v 9 (by rfl) (by rfl) (by rfl) (by rfl)) (SE.v 5 (by rfl) (by rfl) (by rfl) (by rfl)) (fun _ _ => (by rfl)))) (by rfl)) (SE.v 0 (by rfl) (by rfl) (by rfl) (by rfl))) SE.int (cmp_eq (room64 hr)) (by rfl)))) (fun _ _ _ _ _ => (SE.v 11 (by rfl) (by rfl) (by rfl) (by rfl))) (fun _ => (by rfl))) SE.int (fun _ _ => (by rfl))) (by rfl) (by rfl))
      (SSs.cons (SS.st (i := 9) sc__law_no_register.nd (by rfl) (by rfl) (SE.lc (by rfl) (by rfl) sc__law_no_register.nd (SI.seq (SE.v 9 (by rfl) (by rfl) (by rfl) (by rfl))) (blkOk_by (own := [("x", 11)]) (N := ["p", "row", "size", "left", "n", "j", "at", "found", "i", "own", "k", "x", "often", "c", "line"]) (sc := defScope s__law_no_register) (by decide +kernel)) (by decide) (fun _ _ _ _ _ => (SG.n (i := 11) sc__law_no_register.nd (by rfl) (by rfl) (by rfl))) (fun _ _ _ _ _ => STs.nil) (fun _ _ _ _ _ => (SE.mod (SE.int1 (by rfl) m_int (SE.mul (SE.v 11 (by rfl) (by rfl) (by rfl) (by rfl)) (SE.v 10 (by rfl) (by rfl) (by rfl) (by rfl))) (by rfl)) (SE.v 0 (by rfl) (by rfl) (by rfl) (by rfl)))) (fun _ => (by rfl))) (by rfl) (by rfl))
      (SSs.cons (SS.asgM (SE.frz (SE.v 9 (by rfl) (by rfl) (by rfl) (by rfl))) (SM.sub (j := 3) (by rfl) (vis_of (by rfl)) (by rfl) (by rfl) (SE.v 6 (by rfl) (by rfl) (by rfl) (by rfl)) (fun _ => (by rfl))) (by rfl) (by rfl) (by rfl))
      (SSs.cons (SS.for PassesOwn.never (by rfl) (SI.seq (SE.v 7 (by rfl) (by rfl) (by rfl) (by rfl))) (SG.n (i := 8) sc__law_no_register.nd (by rfl) (by rfl) (by rfl)) (SSs.one (SS.ite (SW.test (SW.and (ST.cmp (SE.v 8 (by rfl) (by rfl) (by rfl) (by rfl)) (SE.v 6 (by rfl) (by rfl) (by rfl) (by rfl)) (cmp_gt) (by rfl)) (SW.and1 (ST.cmp (SE.ix (SE.ix (SE.v 3 (by rfl) (by rfl) (by rfl) (by rfl)) (SE.v 8 (by rfl) (by rfl) (by rfl) (by rfl)) (fun _ _ => (by rfl))) (SE.v 5 (by rfl) (by rfl) (by rfl) (by rfl)) (fun _ _ => (by rfl))) SE.int (cmp_ne (room64 hr)) (by rfl))))) (SSs.cons (SS.st (i := 12) sc__law_no_register.nd (by rfl) (by rfl) (SE.ix (SE.ix (SE.v 3 (by rfl) (by rfl) (by rfl) (by rfl)) (SE.v 8 (by rfl) (by rfl) (by rfl) (by rfl)) (fun _ _ => (by rfl))) (SE.v 5 (by rfl) (by rfl) (by rfl) (by rfl)) (fun _ _ => (by rfl))) (by rfl) (by rfl))
      (SSs.one (SS.asgM (SE.lc (by rfl) (by rfl) sc__law_no_register.nd (SI.range1 (by rfl) m_range (SA.cons (SE.add (SE.v 2 (by rfl) (by rfl) (by rfl) (by rfl)) SE.int) SA.nil (by rfl)) (by rfl)) (blkOk_by (own := [("c", 13)]) (N := ["p", "row", "size", "left", "n", "j", "at", "found", "i", "own", "k", "x", "often", "c", "line"]) (sc := defScope s__law_no_register) (by decide +kernel)) (by decide) (fun _ _ _ _ _ => (SG.n (i := 13) sc__law_no_register.nd (by rfl) (by rfl) (by rfl))) (fun _ _ _ _ _ => STs.nil) (fun _ _ _ _ _ => (SE.mod (SE.int1 (by rfl) m_int (SE.sub (SE.ix (SE.ix (SE.v 3 (by rfl) (by rfl) (by rfl) (by rfl)) (SE.v 8 (by rfl) (by rfl) (by rfl) (by rfl)) (fun _ _ => (by rfl))) (SE.v 13 (by rfl) (by rfl) (by rfl) (by rfl)) (fun _ _ => (by rfl))) (SE.mul (SE.v 12 (by rfl) (by rfl) (by rfl) (by rfl)) (SE.ix (SE.v 9 (by rfl) (by rfl) (by rfl) (by rfl)) (SE.v 13 (by rfl) (by rfl) (by rfl) (by rfl)) (fun _ _ => (by rfl))))) (by rfl)) (SE.v 0 (by rfl) (by rfl) (by rfl) (by rfl)))) (fun _ => (by rfl))) (SM.sub (j := 3) (by rfl) (vis_of (by rfl)) (by rfl) (by rfl) (SE.v 8 (by rfl) (by rfl) (by rfl) (by rfl)) (fun _ => (by rfl))) (by rfl) (by rfl) (by rfl)))) SSs.nil)) (fun _ => (by rfl)))
      (SSs.one (SS.aug (i := 6) sc__law_no_register.nd (by rfl) (loc_of (by rfl)) SE.int iop_addT opt_iadd (lf_of (by rfl)))))))))) SSs.nil))) (fun _ => (by rfl)))
      (SSs.one (SS.ret (SE.cmp (SE.len (by rfl) m_len (SE.lc (by rfl) (by rfl) sc__law_no_register.nd (SI.seq (SE.sl (SE.v 3 (by rfl) (by rfl) (by rfl) (by rfl)) (SO.some (SE.v 6 (by rfl) (by rfl) (by rfl) (by rfl))) SO.none)) (blkOk_by (own := [("line", 14)]) (N := ["p", "row", "size", "left", "n", "j", "at", "found", "i", "own", "k", "x", "often", "c", "line"]) (sc := defScope s__law_no_register) (by decide +kernel)) (by decide) (fun _ _ _ _ _ => (SG.n (i := 14) sc__law_no_register.nd (by rfl) (by rfl) (by rfl))) (fun _ _ _ _ _ => (STs.one (ST.cmp (SE.ix (SE.v 14 (by rfl) (by rfl) (by rfl) (by rfl)) (SE.v 2 (by rfl) (by rfl) (by rfl) (by rfl)) (fun _ _ => (by rfl))) SE.int (cmp_ne (room64 hr)) (by rfl)))) (fun _ _ _ _ _ => (SE.v 14 (by rfl) (by rfl) (by rfl) (by rfl))) (fun _ => (by rfl))) (by rfl)) SE.int (cmp_gt) (by rfl))))))))
abbrev s__law_follows : Stmt := topS 24
theorem sc__law_follows : FnScope ["p", "row", "taps", "n", "j"] ["p", "row", "taps"] (defScope s__law_follows) := ⟨rfl, rfl, rfl, by decide +kernel, rfl, by decide +kernel, by decide +kernel⟩
def E__law_follows (p row taps n j : L) : REnv := [p, row, taps, n, j]
def c__law_follows_1 : Den := (compD (iRange1 (dCons (den1 gLen (gVar 2)) dNil)) [4] (gNameT 4) dYes (den2 gMul (den2 gIx (gVar 2) (gVar 4)) (den2 gIx (gVar 1) (den2 gSub (den2 gSub (gVar 3) (gC (.int 1))) (gVar 4)))))
def b__law_follows_1 : DenT := (dBl (den2 (gB gNe) (den2 gMod (den1 gInt (den1 gSum c__law_follows_1)) (gVar 0)) (den2 gIx (gVar 1) (gVar 3))))
def t__law_follows_1 : DenS := (dRet (gC (.bl false)))
def t__law_follows_2 : DenS := (dIfS b__law_follows_1 t__law_follows_1 dNx)
def l__law_follows_1 : DenS := t__law_follows_2
def t__law_follows_3 : DenS := (dFor [3] (iRange2 (dCons (den1 gLen (gVar 2)) (dCons (den1 gLen (gVar 1)) dNil))) (gNameT 3) l__law_follows_1)
def t__law_follows_4 : DenS := (dRet (gC (.bl true)))
def d__law_follows : DenS := (dSeq t__law_follows_3
  t__law_follows_4)
def f__law_follows : List T → Option L := bodyP 3 5 d__law_follows
theorem ok__law_follows (F : Fun K "_law_follows" "_law_follows" s__law_follows f fd) (hmg : mg "_law_follows" = some (.ref f)) (hb : Binds K fd ["p", "row", "taps"] []) (m_int : mg "int" = none) (m_len : mg "len" = none) (m_range : mg "range" = none) (m_sum : mg "sum" = none) : Fn P w K mg base fa (k + 1) "_law_follows" 3 (pureF f__law_follows) :=
  fn_pure (as := [3]) (d := d__law_follows) F sc__law_follows hmg hb fun cdv A outer s H E hr => (SSs.cons (SS.for PassesOwn.never (by rfl) (SI.range2 (by rfl) m_range (SA.cons (SE.len (by rfl) m_len (SE.v 2 (by rfl) (by rfl) (by rfl) (by rfl)) (by rfl)) (SA.cons (SE.len (by rfl) m_len (SE.v 1 (by rfl) (by rfl) (by rfl) (by rfl)) (by rfl)) SA.nil (by rfl)) (by rfl)) (by rfl) (by rfl)) (SG.n (i := 3) sc__law_follows.nd (by rfl) (by rfl) (by rfl)) (SSs.one (SS.ite (ST.cmp (SE.mod (SE.int1 (by rfl) m_int (SE.sum (by rfl) (by rfl) m_sum (SE.lc (by rfl) (by rfl) sc__law_follows.nd (SI.range1 (by rfl) m_range (SA.cons (SE.len (by rfl) m_len (SE.v 2 (by rfl) (by rfl) (by rfl) (by rfl)) (by rfl)) SA.nil (by rfl)) (by rfl)) (blkOk_by (own := [("j", 4)]) (N := ["p", "row", "taps", "n", "j"]) (sc := defScope s__law_follows) (by decide +kernel)) (by decide) (fun _ _ _ _ _ => (SG.n (i := 4) sc__law_follows.nd (by rfl) (by rfl) (by rfl))) (fun _ _ _ _ _ => STs.nil) (fun _ _ _ _ _ => (SE.mul (SE.ix (SE.v 2 (by rfl) (by rfl) (by rfl) (by rfl)) (SE.v 4 (by rfl) (by rfl) (by rfl) (by rfl)) (fun _ _ => (by rfl))) (SE.ix (SE.v 1 (by rfl) (by rfl) (by rfl) (by rfl)) (SE.sub (SE.sub (SE.v 3 (by rfl) (by rfl) (by rfl) (by rfl)) SE.int) (SE.v 4 (by rfl) (by rfl) (by rfl) (by rfl))) (fun _ _ => (by rfl))))) (fun _ => (by rfl))) (by rfl)) (by rfl)) (SE.v 0 (by rfl) (by rfl) (by rfl) (by rfl))) (SE.ix (SE.v 1 (by rfl) (by rfl) (by rfl) (by rfl)) (SE.v 3 (by rfl) (by rfl) (by rfl) (by rfl)) (fun _ _ => (by rfl))) (cmp_ne (room64 hr)) (by rfl)) (SSs.one (SS.ret SE.bl)) SSs.nil)) (fun _ => (by rfl)))
      (SSs.one (SS.ret SE.bl)))
abbrev s__law_are_numbers : Stmt := topS 25
theorem sc__law_are_numbers : FnScope ["told", "p", "x"] ["told", "p"] (defScope s__law_are_numbers) := ⟨rfl, rfl, rfl, by decide +kernel, rfl, by decide +kernel, by decide +kernel⟩
def E__law_are_numbers (told p x : L) : REnv := [told, p, x]
def b__law_are_numbers_1 : DenT := (dNot (dTru (den1 (gIsi "list") (gVar 0))))
def t__law_are_numbers_1 : DenS := (dRet (gC (.bl false)))
def t__law_are_numbers_2 : DenS := (dIfS b__law_are_numbers_1 t__law_are_numbers_1 dNx)
def c__law_are_numbers_1 : Den := (compD (iSeq (gVar 0)) [2] (gNameT 2) (dOr (dNot (dTru (den1 (gIsi "int") (gVar 2)))) (dOr (dTru (den1 (gIsi "bool") (gVar 2))) (dOr (dBl (den2 (gB gLt) (gVar 2) (gC (.int 0)))) (dBl (den2 (gB gGe) (gVar 2) (gVar 1)))))) (gVar 2))
def t__law_are_numbers_3 : DenS := (dRet (den2 (gB gEq) (den1 gLen c__law_are_numbers_1) (gC (.int 0))))
def d__law_are_numbers : DenS := (dSeq t__law_are_numbers_2
  t__law_are_numbers_3)
def f__law_are_numbers : List T → Option L := bodyP 2 3 d__law_are_numbers
theorem ok__law_are_numbers (F : Fun K "_law_are_numbers" "_law_are_numbers" s__law_are_numbers f fd) (hmg : mg "_law_are_numbers" = some (.ref f)) (hb : Binds K fd ["told", "p"] []) (m_bool : mg "bool" = none) (m_int : mg "int" = none) (m_isinstance : mg "isinstance" = none) (m_len : mg "len" = none) (m_list : mg "list" = none) : Fn P w K mg base fa (k + 1) "_law_are_numbers" 2 (pureF f__law_are_numbers) :=
  fn_pure (as := []) (d := d__law_are_numbers) F sc__law_are_numbers hmg hb fun cdv A outer s H E hr => (SSs.cons (SS.ite (ST.not (SE.truth (SE.isi (by rfl) m_isinstance (by rfl) m_list (by decide +kernel) (by decide) (by rfl) (SE.v 0 (by rfl) (by rfl) (by rfl) (by rfl)) (by rfl)) (fun _ => (by rfl)))) (SSs.one (SS.ret SE.bl)) SSs.nil)
      (SSs.one (SS.ret (SE.cmp (SE.len (by rfl) m_len (SE.lc (by rfl) (by rfl) sc__law_are_numbers.nd (SI.seq (SE.v 0 (by rfl) (by rfl) (by rfl) (by rfl))) (blkOk_by (own := [("x", 2)]) (N := ["told", "p", "x"]) (sc := defScope s__law_are_numbers) (by decide +kernel)) (by decide) (fun _ _ _ _ _ => (SG.n (i := 2) sc__law_are_numbers.nd (by rfl) (by rfl) (by rfl))) (fun _ _ _ _ _ => (STs.one (SW.test (SW.or (ST.not (SE.truth (SE.isi (by rfl) m_isinstance (by rfl) m_int (by decide +kernel) (by decide) (by rfl) (SE.v 2 (by rfl) (by rfl) (by rfl) (by rfl)) (by rfl)) (fun _ => (by rfl)))) (SW.or (SE.truth (SE.isi (by rfl) m_isinstance (by rfl) m_bool (by decide +kernel) (by decide) (by rfl) (SE.v 2 (by rfl) (by rfl) (by rfl) (by rfl)) (by rfl)) (fun _ => (by rfl))) (SW.or (ST.cmp (SE.v 2 (by rfl) (by rfl) (by rfl) (by rfl)) SE.int (cmp_lt) (by rfl)) (SW.or1 (ST.cmp (SE.v 2 (by rfl) (by rfl) (by rfl) (by rfl)) (SE.v 1 (by rfl) (by rfl) (by rfl) (by rfl)) (cmp_ge) (by rfl))))))))) (fun _ _ _ _ _ => (SE.v 2 (by rfl) (by rfl) (by rfl) (by rfl))) (fun _ => (by rfl))) (by rfl)) SE.int (cmp_eq (room64 hr)) (by rfl)))))
abbrev s__law_register_row : Stmt := topS 26
theorem sc__law_register_row : FnScope ["p", "taps", "begun", "many", "found", "n", "j"] ["p", "taps", "begun", "many"] (defScope s__law_register_row) := ⟨rfl, rfl, rfl, by decide +kernel, rfl, by decide +kernel, by decide +kernel⟩
def E__law_register_row (p taps begun many found n j : L) : REnv := [p, taps, begun, many, found, n, j]
def t__law_register_row_1 : DenS := (dSet 4 (den1 gList (gVar 2)))
def c__law_register_row_1 : Den := (compD (iRange1 (dCons (den1 gLen (gVar 1)) dNil)) [6] (gNameT 6) dYes (den2 gMul (den2 gIx (gVar 1) (gVar 6)) (den2 gIx (gVar 4) (den2 gSub (den2 gSub (gVar 5) (gC (.int 1))) (gVar 6)))))
def t__law_register_row_2 : DenS := (dDrop (dMeth 4 fAppend (dCons (den2 gMod (den1 gInt (den1 gSum c__law_register_row_1)) (gVar 0)) dNil)))
def l__law_register_row_1 : DenS := t__law_register_row_2
def t__law_register_row_3 : DenS := (dFor [5] (iRange2 (dCons (den1 gLen (gVar 2)) (dCons (gVar 3) dNil))) (gNameT 5) l__law_register_row_1)
def t__law_register_row_4 : DenS := (dRet (dSl (gVar 4) dNone (dSome (gVar 3))))
def d__law_register_row : DenS := (dSeq t__law_register_row_1
  (dSeq t__law_register_row_3
  t__law_register_row_4))
def f__law_register_row : List T → Option L := bodyP 4 7 d__law_register_row
theorem ok__law_register_row (F : Fun K "_law_register_row" "_law_register_row" s__law_register_row f fd) (hmg : mg "_law_register_row" = some (.ref f)) (hb : Binds K fd ["p", "taps", "begun", "many"] []) (m_int : mg "int" = none) (m_len : mg "len" = none) (m_list : mg "list" = none) (m_range : mg "range" = none) (m_sum : mg "sum" = none) : Fn P w K mg base fa (k + 1) "_law_register_row" 4 (pureF f__law_register_row) :=
  fn_pure (as := [4, 5]) (d := d__law_register_row) F sc__law_register_row hmg hb fun cdv A outer s H E hr => (SSs.cons (SS.st (i := 4) sc__law_register_row.nd (by rfl) (by rfl) (SE.list1 (by rfl) m_list (SE.v 2 (by rfl) (by rfl) (by rfl) (by rfl)) (by rfl)) (by rfl) (by rfl))
      (SSs.cons (SS.for PassesOwn.never (by rfl) (SI.range2 (by rfl) m_range (SA.cons (SE.len (by rfl) m_len (SE.v 2 (by rfl) (by rfl) (by rfl) (by rfl)) (by rfl)) (SA.cons (SE.v 3 (by rfl) (by rfl) (by rfl) (by rfl)) SA.nil (by rfl)) (by rfl)) (by rfl) (by rfl)) (SG.n (i := 5) sc__law_register_row.nd (by rfl) (by rfl) (by rfl)) (SSs.one (SS.expr (SE.meth (i := 4) PySem.F.slot_list_append PySem.F.type_list_append mt_append me_append (by rfl) (vis_of (by rfl)) (by rfl) (by rfl) (SA.cons (SE.mod (SE.int1 (by rfl) m_int (SE.sum (by rfl) (by rfl) m_sum (SE.lc (by rfl) (by rfl) sc__law_register_row.nd (SI.range1 (by rfl) m_range (SA.cons (SE.len (by rfl) m_len (SE.v 1 (by rfl) (by rfl) (by rfl) (by rfl)) (by rfl)) SA.nil (by rfl)) (by rfl)) (blkOk_by (own := [("j", 6)]) (N := ["p", "taps", "begun", "many", "found", "n", "j"]) (sc := defScope s__law_register_row) (by decide +kernel)) (by decide) (fun _ _ _ _ _ => (SG.n (i := 6) sc__law_register_row.nd (by rfl) (by rfl) (by rfl))) (fun _ _ _ _ _ => STs.nil) (fun _ _ _ _ _ => (SE.mul (SE.ix (SE.v 1 (by rfl) (by rfl) (by rfl) (by rfl)) (SE.v 6 (by rfl) (by rfl) (by rfl) (by rfl)) (fun _ _ => (by rfl))) (SE.ix (SE.v 4 (by rfl) (by rfl) (by rfl) (by rfl)) (SE.sub (SE.sub (SE.v 5 (by rfl) (by rfl) (by rfl) (by rfl)) SE.int) (SE.v 6 (by rfl) (by rfl) (by rfl) (by rfl))) (fun _ _ => (by rfl))))) (fun _ => (by rfl))) (by rfl)) (by rfl)) (SE.v 0 (by rfl) (by rfl) (by rfl) (by rfl))) SA.nil (by rfl)) (by rfl) (by rfl) (by rfl) (by rfl)) (by rfl))) (fun _ => (by rfl)))
      (SSs.one (SS.ret (SE.sl (SE.v 4 (by rfl) (by rfl) (by rfl) (by rfl)) SO.none (SO.some (SE.v 3 (by rfl) (by rfl) (by rfl) (by rfl))))))))
abbrev s__law_lengths : Stmt := topS 27
theorem sc__law_lengths : FnScope ["p", "row", "found", "size", "n", "step"] ["p", "row"] (defScope s__law_lengths) := ⟨rfl, rfl, rfl, by decide +kernel, rfl, by decide +kernel, by decide +kernel⟩
def E__law_lengths (p row found size n step : L) : REnv := [p, row, found, size, n, step]
def t__law_lengths_1 : DenS := (dSet 2 (dLst dNil))
def t__law_lengths_2 : DenS := (dSet 3 (gC (.int 0)))
def b__law_lengths_1 : DenT := (dNot (dTru (dCallP 3 f__law_no_register (dCons (gVar 0) (dCons (dSl (gVar 1) dNone (dSome (den2 gAdd (gVar 4) (gC (.int 1))))) (dCons (gVar 3) dNil))))))
def t__law_lengths_3 : DenS := (dIfS b__law_lengths_1 dBrk dNx)
def t__law_lengths_4 : DenS := (dAug 3 gIAdd (gC (.int 1)))
def l__law_lengths_1 : DenS := (dSeq t__law_lengths_3
  t__law_lengths_4)
def t__law_lengths_5 : DenS := (dFor [5, 3] (iRange1 (dCons (den2 gAdd (den1 gLen (gVar 1)) (gC (.int 1))) dNil)) (gNameT 5) l__law_lengths_1)
def t__law_lengths_6 : DenS := (dDrop (dMeth 2 fAppend (dCons (gVar 3) dNil)))
def l__law_lengths_2 : DenS := (dSeq t__law_lengths_5
  t__law_lengths_6)
def t__law_lengths_7 : DenS := (dFor [4, 5, 3] (iRange1 (dCons (den1 gLen (gVar 1)) dNil)) (gNameT 4) l__law_lengths_2)
def t__law_lengths_8 : DenS := (dRet (gVar 2))
def d__law_lengths : DenS := (dSeq t__law_lengths_1
  (dSeq t__law_lengths_2
  (dSeq t__law_lengths_7
  t__law_lengths_8)))
def f__law_lengths : List T → Option L := bodyP 2 6 d__law_lengths
theorem ok__law_lengths (F : Fun K "_law_lengths" "_law_lengths" s__law_lengths f fd) (hmg : mg "_law_lengths" = some (.ref f)) (hb : Binds K fd ["p", "row"] []) (c__law_no_register : Fn P w K mg base fa k "_law_no_register" 3 (pureF f__law_no_register)) (m_len : mg "len" = none) (m_range : mg "range" = none) : Fn P w K mg base fa (k + 1) "_law_lengths" 2 (pureF f__law_lengths) :=
  fn_pure (as := [2, 3, 4, 5, 3]) (d := d__law_lengths) F sc__law_lengths hmg hb fun cdv A outer s H E hr => (SSs.cons (SS.st (i := 2) sc__law_lengths.nd (by rfl) (by rfl) (SE.lst SA.nil) (by rfl) (by rfl))
      (SSs.cons (SS.st (i := 3) sc__law_lengths.nd (by rfl) (by rfl) SE.int (by rfl) (by rfl))
      (SSs.cons (SS.for PassesOwn.never (by rfl) (SI.range1 (by rfl) m_range (SA.cons (SE.len (by rfl) m_len (SE.v 1 (by rfl) (by rfl) (by rfl) (by rfl)) (by rfl)) SA.nil (by rfl)) (by rfl)) (SG.n (i := 4) sc__law_lengths.nd (by rfl) (by rfl) (by rfl)) (SSs.cons (SS.for PassesOwn.never (by rfl) (SI.range1 (by rfl) m_range (SA.cons (SE.add (SE.len (by rfl) m_len (SE.v 1 (by rfl) (by rfl) (by rfl) (by rfl)) (by rfl)) SE.int) SA.nil (by rfl)) (by rfl)) (SG.n (i := 5) sc__law_lengths.nd (by rfl) (by rfl) (by rfl)) (SSs.cons (SS.ite (ST.not (SE.truth (SE.callP c__law_no_register hr (by rfl) (SA.cons (SE.v 0 (by rfl) (by rfl) (by rfl) (by rfl)) (SA.cons (SE.sl (SE.v 1 (by rfl) (by rfl) (by rfl) (by rfl)) SO.none (SO.some (SE.add (SE.v 4 (by rfl) (by rfl) (by rfl) (by rfl)) SE.int))) (SA.cons (SE.v 3 (by rfl) (by rfl) (by rfl) (by rfl)) SA.nil (by rfl)) (by rfl)) (by rfl)) (by rfl) (by rfl) (by rfl)) (fun _ => (by rfl)))) (SSs.one SS.brk) SSs.nil)
      (SSs.one (SS.aug (i := 3) sc__law_lengths.nd (by rfl) (loc_of (by rfl)) SE.int iop_addT opt_iadd (lf_of (by rfl))))) (fun _ => (by rfl)))
      (SSs.one (SS.expr (SE.meth (i := 2) PySem.F.slot_list_append PySem.F.type_list_append mt_append me_append (by rfl) (vis_of (by rfl)) (by rfl) (by rfl) (SA.cons (SE.v 3 (by rfl) (by rfl) (by rfl) (by rfl)) SA.nil (by rfl)) (by rfl) (by rfl) (by rfl) (by rfl)) (by rfl)))) (fun _ => (by rfl)))
      (SSs.one (SS.ret (SE.v 2 (by rfl) (by rfl) (by rfl) (by rfl)))))))
abbrev s__law_shown : Stmt := topS 28
theorem sc__law_shown : FnScope ["p", "row", "taps", "other", "at", "x"] ["p", "row", "taps", "other", "at"] (defScope s__law_shown) := ⟨rfl, rfl, rfl, by decide +kernel, rfl, by decide +kernel, by decide +kernel⟩
def E__law_shown (p row taps other at_ x : L) : REnv := [p, row, taps, other, at_, x]
def c__law_shown_1 : Den := (compD (iSeq (gVar 1)) [5] (gNameT 5) (dBl (den2 (gB gNe) (gVar 5) (gC (.int 0)))) (gVar 5))
def b__law_shown_1 : DenT := (dBl (den2 (gB gEq) (den1 gLen c__law_shown_1) (gC (.int 0))))
def t__law_shown_1 : DenS := (dRet (dAndV (den2 (gB gEq) (gVar 2) (dLst dNil)) (dAndV (den2 (gB gEq) (gVar 3) (dLst dNil)) (den2 (gB gEq) (gVar 4) (den2 gSub (gC (.int 0)) (gC (.int 1)))))))
def t__law_shown_2 : DenS := (dIfS b__law_shown_1 t__law_shown_1 dNx)
def b__law_shown_2 : DenT := (dOr (dNot (dTru (dCallP 3 f__law_follows (dCons (gVar 0) (dCons (gVar 1) (dCons (gVar 2) dNil)))))) (dOr (dBl (den2 (gB gLt) (gVar 4) (gC (.int 0)))) (dOr (dBl (den2 (gB gGe) (gVar 4) (den1 gLen (gVar 1)))) (dOr (dBl (den2 (gB gNe) (den2 gSub (den2 gAdd (gVar 4) (gC (.int 1))) (den1 gLen (gVar 3))) (den1 gLen (gVar 2)))) (dBl (den2 (gB gGt) (den1 gLen (gVar 2)) (den1 gLen (gVar 1))))))))
def t__law_shown_3 : DenS := (dRet (gC (.bl false)))
def t__law_shown_4 : DenS := (dIfS b__law_shown_2 t__law_shown_3 dNx)
def t__law_shown_5 : DenS := (dRet (dAndV (dCallP 3 f__law_follows (dCons (gVar 0) (dCons (dSl (gVar 1) dNone (dSome (gVar 4))) (dCons (gVar 3) dNil)))) (dAndV (den2 (gB gLe) (den1 gLen (gVar 3)) (gVar 4)) (dNotV (dCallP 3 f__law_follows (dCons (gVar 0) (dCons (dSl (gVar 1) dNone (dSome (den2 gAdd (gVar 4) (gC (.int 1))))) (dCons (gVar 3) dNil))))))))
def d__law_shown : DenS := (dSeq t__law_shown_2
  (dSeq t__law_shown_4
  t__law_shown_5))
def f__law_shown : List T → Option L := bodyP 5 6 d__law_shown
theorem ok__law_shown (F : Fun K "_law_shown" "_law_shown" s__law_shown f fd) (hmg : mg "_law_shown" = some (.ref f)) (hb : Binds K fd ["p", "row", "taps", "other", "at"] []) (c__law_follows : Fn P w K mg base fa k "_law_follows" 3 (pureF f__law_follows)) (m_len : mg "len" = none) : Fn P w K mg base fa (k + 1) "_law_shown" 5 (pureF f__law_shown) :=
  fn_pure (as := []) (d := d__law_shown) F sc__law_shown hmg hb fun cdv A outer s H E hr => (SSs.cons (SS.ite (ST.cmp (SE.len (by rfl) m_len (SE.lc (by rfl) (by rfl) sc__law_shown.nd (SI.seq (SE.v 1 (by rfl) (by rfl) (by rfl) (by rfl))) (blkOk_by (own := [("x", 5)]) (N := ["p", "row", "taps", "other", "at", "x"]) (sc := defScope s__law_shown) (by decide +kernel)) (by decide) (fun _ _ _ _ _ => (SG.n (i := 5) sc__law_shown.nd (by rfl) (by rfl) (by rfl))) (fun _ _ _ _ _ => (STs.one (ST.cmp (SE.v 5 (by rfl) (by rfl) (by rfl) (by rfl)) SE.int (cmp_ne (room64 hr)) (by rfl)))) (fun _ _ _ _ _ => (SE.v 5 (by rfl) (by rfl) (by rfl) (by rfl))) (fun _ => (by rfl))) (by rfl)) SE.int (cmp_eq (room64 hr)) (by rfl)) (SSs.one (SS.ret (SE.andV (SE.cmp (SE.v 2 (by rfl) (by rfl) (by rfl) (by rfl)) (SE.lst SA.nil) (cmp_eq (room64 hr)) (by rfl)) (SE.andV (SE.cmp (SE.v 3 (by rfl) (by rfl) (by rfl) (by rfl)) (SE.lst SA.nil) (cmp_eq (room64 hr)) (by rfl)) (SE.one (SE.cmp (SE.v 4 (by rfl) (by rfl) (by rfl) (by rfl)) (SE.sub SE.int SE.int) (cmp_eq (room64 hr)) (by rfl))))))) SSs.nil)
      (SSs.cons (SS.ite (SW.test (SW.or (ST.not (SE.truth (SE.callP c__law_follows hr (by rfl) (SA.cons (SE.v 0 (by rfl) (by rfl) (by rfl) (by rfl)) (SA.cons (SE.v 1 (by rfl) (by rfl) (by rfl) (by rfl)) (SA.cons (SE.v 2 (by rfl) (by rfl) (by rfl) (by rfl)) SA.nil (by rfl)) (by rfl)) (by rfl)) (by rfl) (by rfl) (by rfl)) (fun _ => (by rfl)))) (SW.or (ST.cmp (SE.v 4 (by rfl) (by rfl) (by rfl) (by rfl)) SE.int (cmp_lt) (by rfl)) (SW.or (ST.cmp (SE.v 4 (by rfl) (by rfl) (by rfl) (by rfl)) (SE.len (by rfl) m_len (SE.v 1 (by rfl) (by rfl) (by rfl) (by rfl)) (by rfl)) (cmp_ge) (by rfl)) (SW.or (ST.cmp (SE.sub (SE.add (SE.v 4 (by rfl) (by rfl) (by rfl) (by rfl)) SE.int) (SE.len (by rfl) m_len (SE.v 3 (by rfl) (by rfl) (by rfl) (by rfl)) (by rfl))) (SE.len (by rfl) m_len (SE.v 2 (by rfl) (by rfl) (by rfl) (by rfl)) (by rfl)) (cmp_ne (room64 hr)) (by rfl)) (SW.or1 (ST.cmp (SE.len (by rfl) m_len (SE.v 2 (by rfl) (by rfl) (by rfl) (by rfl)) (by rfl)) (SE.len (by rfl) m_len (SE.v 1 (by rfl) (by rfl) (by rfl) (by rfl)) (by rfl)) (cmp_gt) (by rfl)))))))) (SSs.one (SS.ret SE.bl)) SSs.nil)
      (SSs.one (SS.ret (SE.andV (SE.callP c__law_follows hr (by rfl) (SA.cons (SE.v 0 (by rfl) (by rfl) (by rfl) (by rfl)) (SA.cons (SE.sl (SE.v 1 (by rfl) (by rfl) (by rfl) (by rfl)) SO.none (SO.some (SE.v 4 (by rfl) (by rfl) (by rfl) (by rfl)))) (SA.cons (SE.v 3 (by rfl) (by rfl) (by rfl) (by rfl)) SA.nil (by rfl)) (by rfl)) (by rfl)) (by rfl) (by rfl) (by rfl)) (SE.andV (SE.cmp (SE.len (by rfl) m_len (SE.v 3 (by rfl) (by rfl) (by rfl) (by rfl)) (by rfl)) (SE.v 4 (by rfl) (by rfl) (by rfl) (by rfl)) (cmp_le) (by rfl)) (SE.one (SE.notV (SE.callP c__law_follows hr (by rfl) (SA.cons (SE.v 0 (by rfl) (by rfl) (by rfl) (by rfl)) (SA.cons (SE.sl (SE.v 1 (by rfl) (by rfl) (by rfl) (by rfl)) SO.none (SO.some (SE.add (SE.v 4 (by rfl) (by rfl) (by rfl) (by rfl)) SE.int))) (SA.cons (SE.v 3 (by rfl) (by rfl) (by rfl) (by rfl)) SA.nil (by rfl)) (by rfl)) (by rfl)) (by rfl) (by rfl) (by rfl))))))))))
abbrev s__law_row : Stmt := topS 29
theorem sc__law_row : FnScope ["feed", "p", "kind", "size"] ["feed", "p"] (defScope s__law_row) := ⟨rfl, rfl, rfl, by decide +kernel, rfl, by decide +kernel, by decide +kernel⟩
def E__law_row (feed p kind size : L) : REnv := [feed, p, kind, size]
def t__law_row_1 : DenS := (dSet 2 (dCallF 2 0 g__law_draw (dCons (gC (.int 5)) dNil)))
def b__law_row_1 : DenT := (dBl (den2 (gB gLt) (gVar 2) (gC (.int 2))))
def t__law_row_2 : DenS := (dSet 3 (den2 gAdd (gC (.int 1)) (dCallF 2 0 g__law_draw (dCons (gC (.int 8)) dNil))))
def t__law_row_3 : DenS := (dRet (dCallP 4 f__law_register_row (dCons (gVar 1) (dCons (dCallF 3 0 g__law_drawn_numbers (dCons (gVar 1) (dCons (dFrz 3) dNil))) (dCons (dCallF 3 0 g__law_drawn_numbers (dCons (gVar 1) (dCons (dFrz 3) dNil))) (dCons (den2 gSub (den2 gIx (dLst (dCons (gC (.int 20)) (dCons (gC (.int 40)) dNil))) (gVar 2)) (dCallF 2 0 g__law_draw (dCons (gC (.int 6)) dNil))) dNil))))))
def t__law_row_4 : DenS := (dIfS b__law_row_1 (dSeq t__law_row_2
  t__law_row_3) dNx)
def b__law_row_2 : DenT := (dBl (den2 (gB gEq) (gVar 2) (gC (.int 2))))
def t__law_row_5 : DenS := (dRet (dCallF 3 0 g__law_drawn_numbers (dCons (gVar 1) (dCons (dCallF 2 0 g__law_draw (dCons (gC (.int 19)) dNil)) dNil))))
def t__law_row_6 : DenS := (dIfS b__law_row_2 t__law_row_5 dNx)
def b__law_row_3 : DenT := (dBl (den2 (gB gEq) (gVar 2) (gC (.int 3))))
def t__law_row_7 : DenS := (dRet (den2 gAdd (den2 gMul (dLst (dCons (gC (.int 0)) dNil)) (dCallF 2 0 g__law_draw (dCons (gC (.int 9)) dNil))) (dCallF 3 0 g__law_drawn_numbers (dCons (gVar 1) (dCons (den2 gAdd (gC (.int 1)) (dCallF 2 0 g__law_draw (dCons (gC (.int 8)) dNil))) dNil)))))
def t__law_row_8 : DenS := (dIfS b__law_row_3 t__law_row_7 dNx)
def t__law_row_9 : DenS := (dRet (den2 gMul (dLst (dCons (gC (.int 0)) dNil)) (dCallF 2 0 g__law_draw (dCons (gC (.int 12)) dNil))))
def d__law_row : DenS := (dSeq t__law_row_1
  (dSeq t__law_row_4
  (dSeq t__law_row_6
  (dSeq t__law_row_8
  t__law_row_9))))
def g__law_row : List T → List T → Option (L × List T) := bodyF 2 4 [2, 3] d__law_row
theorem ok__law_row (F : Fun K "_law_row" "_law_row" s__law_row f fd) (hmg : mg "_law_row" = some (.ref f)) (hb : Binds K fd ["feed", "p"] []) (c__law_draw : Fn P w K mg base fa k "_law_draw" 2 (feedF g__law_draw)) (c__law_drawn_numbers : Fn P w K mg base fa k "_law_drawn_numbers" 3 (feedF g__law_drawn_numbers)) (c__law_register_row : Fn P w K mg base fa k "_law_register_row" 4 (pureF f__law_register_row)) : Fn P w K mg base fa (k + 1) "_law_row" 2 (feedF g__law_row) :=
  fn_feed (as := [2, 3]) (d := d__law_row) F sc__law_row hmg hb fun cdv A outer s H E hr => (SSs.cons (SS.st (i := 2) sc__law_row.nd (by rfl) (by rfl) (SE.callF c__law_draw hr (by rfl) (i := 0) (by rfl) (vis_of (by rfl)) (by rfl) (by rfl) (SA.cons SE.int SA.nil (by rfl)) (by rfl) (by rfl) (by rfl)) (by rfl) (by rfl))
      (SSs.cons (SS.ite (ST.cmp (SE.v 2 (by rfl) (by rfl) (by rfl) (by rfl)) SE.int (cmp_lt) (by rfl)) (SSs.cons (SS.st (i := 3) sc__law_row.nd (by rfl) (by rfl) (SE.add SE.int (SE.callF c__law_draw hr (by rfl) (i := 0) (by rfl) (vis_of (by rfl)) (by rfl) (by rfl) (SA.cons SE.int SA.nil (by rfl)) (by rfl) (by rfl) (by rfl))) (by rfl) (by rfl))
      (SSs.one (SS.ret (SE.callP c__law_register_row hr (by rfl) (SA.cons (SE.v 1 (by rfl) (by rfl) (by rfl) (by rfl)) (SA.cons (SE.callF c__law_drawn_numbers hr (by rfl) (i := 0) (by rfl) (vis_of (by rfl)) (by rfl) (by rfl) (SA.cons (SE.v 1 (by rfl) (by rfl) (by rfl) (by rfl)) (SA.cons (SE.frz (SE.v 3 (by rfl) (by rfl) (by rfl) (by rfl))) SA.nil (by rfl)) (by rfl)) (by rfl) (by rfl) (by rfl)) (SA.cons (SE.callF c__law_drawn_numbers hr (by rfl) (i := 0) (by rfl) (vis_of (by rfl)) (by rfl) (by rfl) (SA.cons (SE.v 1 (by rfl) (by rfl) (by rfl) (by rfl)) (SA.cons (SE.frz (SE.v 3 (by rfl) (by rfl) (by rfl) (by rfl))) SA.nil (by rfl)) (by rfl)) (by rfl) (by rfl) (by rfl)) (SA.cons (SE.sub (SE.ix (SE.lst (SA.cons SE.int (SA.cons SE.int SA.nil (by rfl)) (by rfl))) (SE.v 2 (by rfl) (by rfl) (by rfl) (by rfl)) (fun _ _ => (by rfl))) (SE.callF c__law_draw hr (by rfl) (i := 0) (by rfl) (vis_of (by rfl)) (by rfl) (by rfl) (SA.cons SE.int SA.nil (by rfl)) (by rfl) (by rfl) (by rfl))) SA.nil (by rfl)) (by rfl)) (by rfl)) (by rfl)) (by rfl) (by rfl) (by rfl))))) SSs.nil)
      (SSs.cons (SS.ite (ST.cmp (SE.v 2 (by rfl) (by rfl) (by rfl) (by rfl)) SE.int (cmp_eq (room64 hr)) (by rfl)) (SSs.one (SS.ret (SE.callF c__law_drawn_numbers hr (by rfl) (i := 0) (by rfl) (vis_of (by rfl)) (by rfl) (by rfl) (SA.cons (SE.v 1 (by rfl) (by rfl) (by rfl) (by rfl)) (SA.cons (SE.callF c__law_draw hr (by rfl) (i := 0) (by rfl) (vis_of (by rfl)) (by rfl) (by rfl) (SA.cons SE.int SA.nil (by rfl)) (by rfl) (by rfl) (by rfl)) SA.nil (by rfl)) (by rfl)) (by rfl) (by rfl) (by rfl)))) SSs.nil)
      (SSs.cons (SS.ite (ST.cmp (SE.v 2 (by rfl) (by rfl) (by rfl) (by rfl)) SE.int (cmp_eq (room64 hr)) (by rfl)) (SSs.one (SS.ret (SE.add (SE.mul (SE.lst (SA.cons SE.int SA.nil (by rfl))) (SE.callF c__law_draw hr (by rfl) (i := 0) (by rfl) (vis_of (by rfl)) (by rfl) (by rfl) (SA.cons SE.int SA.nil (by rfl)) (by rfl) (by rfl) (by rfl))) (SE.callF c__law_drawn_numbers hr (by rfl) (i := 0) (by rfl) (vis_of (by rfl)) (by rfl) (by rfl) (SA.cons (SE.v 1 (by rfl) (by rfl) (by rfl) (by rfl)) (SA.cons (SE.add SE.int (SE.callF c__law_draw hr (by rfl) (i := 0) (by rfl) (vis_of (by rfl)) (by rfl) (by rfl) (SA.cons SE.int SA.nil (by rfl)) (by rfl) (by rfl) (by rfl))) SA.nil (by rfl)) (by rfl)) (by rfl) (by rfl) (by rfl))))) SSs.nil)
      (SSs.one (SS.ret (SE.mul (SE.lst (SA.cons SE.int SA.nil (by rfl))) (SE.callF c__law_draw hr (by rfl) (i := 0) (by rfl) (vis_of (by rfl)) (by rfl) (by rfl) (SA.cons SE.int SA.nil (by rfl)) (by rfl) (by rfl) (by rfl)))))))))
abbrev s__law_papers_hold : Stmt := topS 30
theorem sc__law_papers_hold : FnScope ["feed", "p", "row", "told", "taps", "other", "at", "papers", "step", "j", "one", "more", "place"] ["feed", "p", "row", "told"] (defScope s__law_papers_hold) := ⟨rfl, rfl, rfl, by decide +kernel, rfl, by decide +kernel, by decide +kernel⟩
def E__law_papers_hold (feed p row told taps other at_ papers step j one more_ place : L) : REnv := [feed, p, row, told, taps, other, at_, papers, step, j, one, more_, place]
def t__law_papers_hold_1 : DenS := (dAsg (gVar 3) (gTupT 3 (gConsT (gNameT 4) (gConsT (gNameT 5) (gConsT (gNameT 6) gNilT)))))
def t__law_papers_hold_2 : DenS := (dSet 7 (dLst (dCons (dTup (dCons (gVar 4) (dCons (gVar 5) (dCons (gVar 6) dNil)))) (dCons (dTup (dCons (den2 gAdd (gVar 4) (dLst (dCons (gC (.int 0)) dNil))) (dCons (gVar 5) (dCons (gVar 6) dNil)))) (dCons (dTup (dCons (gVar 4) (dCons (den2 gAdd (gVar 5) (dLst (dCons (gC (.int 0)) dNil))) (dCons (den2 gAdd (gVar 6) (gC (.int 1))) dNil)))) (dCons (dTup (dCons (gVar 4) (dCons (gVar 5) (dCons (den2 gAdd (gVar 6) (gC (.int 1))) dNil)))) (dCons (dTup (dCons (gVar 4) (dCons (gVar 5) (dCons (den2 gSub (gVar 6) (gC (.int 1))) dNil)))) dNil)))))))
def t__law_papers_hold_3 : DenS := (dSet 7 (den2 gAdd (gVar 7) (dLst (dCons (dTup (dCons (gVar 5) (dCons (gVar 4) (dCons (gVar 6) dNil)))) (dCons (dTup (dCons (dSl (gVar 4) (dSome (gC (.int 1))) dNone) (dCons (gVar 5) (dCons (gVar 6) dNil)))) (dCons (dTup (dCons (gVar 4) (dCons (dLst dNil) (dCons (gVar 6) dNil)))) (dCons (dTup (dCons (dLst dNil) (dCons (dLst dNil) (dCons (den2 gSub (gC (.int 0)) (gC (.int 1))) dNil)))) (dCons (dTup (dCons (gVar 4) (dCons (gVar 4) (dCons (den1 gLen (gVar 2)) dNil)))) dNil))))))))
def b__law_papers_hold_1 : DenT := (dBl (den2 (gB gGt) (den1 gLen (gVar 4)) (gC (.int 0))))
def t__law_papers_hold_4 : DenS := (dSet 9 (dCallF 2 0 g__law_draw (dCons (den1 gLen (gVar 4)) dNil)))
def t__law_papers_hold_5 : DenS := (dDrop (dMeth 7 fAppend (dCons (dTup (dCons (den2 gAdd (den2 gAdd (dSl (gVar 4) dNone (dSome (gVar 9))) (dLst (dCons (den2 gMod (den1 gInt (den2 gAdd (den2 gAdd (den2 gIx (gVar 4) (gVar 9)) (gC (.int 1))) (dCallF 2 0 g__law_draw (dCons (den2 gSub (gVar 1) (gC (.int 1))) dNil)))) (gVar 1)) dNil))) (dSl (gVar 4) (dSome (den2 gAdd (gVar 9) (gC (.int 1)))) dNone)) (dCons (gVar 5) (dCons (gVar 6) dNil)))) dNil)))
def t__law_papers_hold_6 : DenS := (dIfS b__law_papers_hold_1 (dSeq t__law_papers_hold_4
  t__law_papers_hold_5) dNx)
def b__law_papers_hold_2 : DenT := (dBl (den2 (gB gGt) (den1 gLen (gVar 5)) (gC (.int 0))))
def t__law_papers_hold_7 : DenS := (dSet 9 (dCallF 2 0 g__law_draw (dCons (den1 gLen (gVar 5)) dNil)))
def t__law_papers_hold_8 : DenS := (dDrop (dMeth 7 fAppend (dCons (dTup (dCons (gVar 4) (dCons (den2 gAdd (den2 gAdd (dSl (gVar 5) dNone (dSome (gVar 9))) (dLst (dCons (den2 gMod (den1 gInt (den2 gAdd (den2 gAdd (den2 gIx (gVar 5) (gVar 9)) (gC (.int 1))) (dCallF 2 0 g__law_draw (dCons (den2 gSub (gVar 1) (gC (.int 1))) dNil)))) (gVar 1)) dNil))) (dSl (gVar 5) (dSome (den2 gAdd (gVar 9) (gC (.int 1)))) dNone)) (dCons (gVar 6) dNil)))) dNil)))
def t__law_papers_hold_9 : DenS := (dIfS b__law_papers_hold_2 (dSeq t__law_papers_hold_7
  t__law_papers_hold_8) dNx)
def l__law_papers_hold_1 : DenS := (dSeq t__law_papers_hold_6
  t__law_papers_hold_9)
def t__law_papers_hold_10 : DenS := (dFor [8, 9, 9] (iRange1 (dCons (gC (.int 3)) dNil)) (gNameT 8) l__law_papers_hold_1)
def b__law_papers_hold_3 : DenT := (dAnd (dBl (den2 (gB gLe) (den1 gLen (gVar 10)) (gC (.int 20)))) (dBl (den2 (gB gLe) (den1 gLen (gVar 11)) (gC (.int 20)))))
def b__law_papers_hold_4 : DenT := (dNot (dTru (dCallP 2 (f__law_same 5) (dCons (dCallP 5 f_shows_least_register (dCons (gVar 1) (dCons (gVar 2) (dCons (den1 gList (gVar 10)) (dCons (den1 gList (gVar 11)) (dCons (gVar 12) dNil)))))) (dCons (dCallP 5 f__law_shown (dCons (gVar 1) (dCons (gVar 2) (dCons (gVar 10) (dCons (gVar 11) (dCons (gVar 12) dNil)))))) dNil)))))
def t__law_papers_hold_11 : DenS := (dRet (gC (.bl false)))
def t__law_papers_hold_12 : DenS := (dIfS b__law_papers_hold_4 t__law_papers_hold_11 dNx)
def t__law_papers_hold_13 : DenS := (dIfS b__law_papers_hold_3 t__law_papers_hold_12 dNx)
def l__law_papers_hold_2 : DenS := t__law_papers_hold_13
def t__law_papers_hold_14 : DenS := (dFor [10, 11, 12] (iSeq (gVar 7)) (gTupT 3 (gConsT (gNameT 10) (gConsT (gNameT 11) (gConsT (gNameT 12) gNilT)))) l__law_papers_hold_2)
def b__law_papers_hold_5 : DenT := (dBl (den2 (gB gIsNot) (dCallP 5 f_shows_least_register (dCons (gVar 1) (dCons (gVar 2) (dCons (gVar 10) (dCons (gVar 11) (dCons (gVar 12) dNil)))))) (gC (.bl false))))
def t__law_papers_hold_15 : DenS := (dRet (gC (.bl false)))
def t__law_papers_hold_16 : DenS := (dIfS b__law_papers_hold_5 t__law_papers_hold_15 dNx)
def l__law_papers_hold_3 : DenS := t__law_papers_hold_16
def t__law_papers_hold_17 : DenS := (dFor [10, 11, 12] (iSeq (dLst (dCons (dTup (dCons (gC .non) (dCons (gVar 5) (dCons (gVar 6) dNil)))) (dCons (dTup (dCons (den1 gTuple (gVar 4)) (dCons (gVar 5) (dCons (gVar 6) dNil)))) (dCons (dTup (dCons (gVar 4) (dCons (gC .non) (dCons (gVar 6) dNil)))) (dCons (dTup (dCons (gVar 4) (dCons (den1 gTuple (gVar 5)) (dCons (gVar 6) dNil)))) (dCons (dTup (dCons (gVar 4) (dCons (gVar 5) (dCons (gC .non) dNil)))) (dCons (dTup (dCons (gVar 4) (dCons (gVar 5) (dCons (dLst (dCons (gVar 6) dNil)) dNil)))) dNil)))))))) (gTupT 3 (gConsT (gNameT 10) (gConsT (gNameT 11) (gConsT (gNameT 12) gNilT)))) l__law_papers_hold_3)
def t__law_papers_hold_18 : DenS := (dRet (dAndV (den2 (gB gIs) (dCallP 5 f_shows_least_register (dCons (gVar 1) (dCons (gVar 2) (dCons (den2 gAdd (gVar 4) (dLst (dCons (gVar 1) dNil))) (dCons (gVar 5) (dCons (gVar 6) dNil)))))) (gC (.bl false))) (den2 (gB gIs) (dCallP 5 f_shows_least_register (dCons (gVar 1) (dCons (gVar 2) (dCons (gVar 4) (dCons (den2 gAdd (gVar 5) (dLst (dCons (den2 gSub (gC (.int 0)) (gC (.int 1))) dNil))) (dCons (den2 gAdd (gVar 6) (gC (.int 1))) dNil)))))) (gC (.bl false)))))
def d__law_papers_hold : DenS := (dSeq t__law_papers_hold_1
  (dSeq t__law_papers_hold_2
  (dSeq t__law_papers_hold_3
  (dSeq t__law_papers_hold_10
  (dSeq t__law_papers_hold_14
  (dSeq t__law_papers_hold_17
  t__law_papers_hold_18))))))
def g__law_papers_hold : List T → List T → Option (L × List T) := bodyF 4 13 [4, 5, 6, 7, 7, 8, 9, 9, 10, 11, 12, 10, 11, 12] d__law_papers_hold
theorem ok__law_papers_hold (F : Fun K "_law_papers_hold" "_law_papers_hold" s__law_papers_hold f fd) (hmg : mg "_law_papers_hold" = some (.ref f)) (hb : Binds K fd ["feed", "p", "row", "told"] []) (c__law_draw : Fn P w K mg base fa k "_law_draw" 2 (feedF g__law_draw)) (c__law_same : Fn P w K mg base fa k "_law_same" 2 (pureF (f__law_same 5))) (c__law_shown : Fn P w K mg base fa k "_law_shown" 5 (pureF f__law_shown)) (c_shows_least_register : Fn P w K mg base fa k "shows_least_register" 5 (pureF f_shows_least_register)) (m_int : mg "int" = none) (m_len : mg "len" = none) (m_list : mg "list" = none) (m_range : mg "range" = none) (m_tuple : mg "tuple" = none) : Fn P w K mg base fa (k + 1) "_law_papers_hold" 4 (feedF g__law_papers_hold) :=
  fn_feed (as := [4, 5, 6, 7, 7, 8, 9, 9, 10, 11, 12, 10, 11, 12]) (d := d__law_papers_hold) F sc__law_papers_hold hmg hb fun cdv A outer s H E hr => (SSs.cons (SS.asg (SE.v 3 (by rfl) (by rfl) (by rfl) (by rfl)) (SG.tup (n := 3) (by rfl) (SGs.cons (SG.n (i := 4) sc__law_papers_hold.nd (by rfl) (by rfl) (by rfl)) (SGs.cons (SG.n (i := 5) sc__law_papers_hold.nd (by rfl) (by rfl) (by rfl)) (SGs.cons (SG.n (i := 6) sc__law_papers_hold.nd (by rfl) (by rfl) (by rfl)) SGs.nil (by rfl)) (by rfl)) (by rfl)) (by rfl) (by rfl)) (by rfl) (by rfl) (by rfl))
      (SSs.cons (SS.st (i := 7) sc__law_papers_hold.nd (by rfl) (by rfl) (SE.lst (SA.cons (SE.tup (SA.cons (SE.v 4 (by rfl) (by rfl) (by rfl) (by rfl)) (SA.cons (SE.v 5 (by rfl) (by rfl) (by rfl) (by rfl)) (SA.cons (SE.v 6 (by rfl) (by rfl) (by rfl) (by rfl)) SA.nil (by rfl)) (by rfl)) (by rfl))) (SA.cons (SE.tup (SA.cons (SE.add (SE.v 4 (by rfl) (by rfl) (by rfl) (by rfl)) (SE.lst (SA.cons SE.int SA.nil (by rfl)))) (SA.cons (SE.v 5 (by rfl) (by rfl) (by rfl) (by rfl)) (SA.cons (SE.v 6 (by rfl) (by rfl) (by rfl) (by rfl)) SA.nil (by rfl)) (by rfl)) (by rfl))) (SA.cons (SE.tup (SA.cons (SE.v 4 (by rfl) (by rfl) (by rfl) (by rfl)) (SA.cons (SE.add (SE.v 5 (by rfl) (by rfl) (by rfl) (by rfl)) (SE.lst (SA.cons SE.int SA.nil (by rfl)))) (SA.cons (SE.add (SE.v 6 (by rfl) (by rfl) (by rfl) (by rfl)) SE.int) SA.nil (by rfl)) (by rfl)) (by rfl))) (SA.cons (SE.tup (SA.cons (SE.v 4 (by rfl) (by rfl) (by rfl) (by rfl)) (SA.cons (SE.v 5 (by rfl) (by rfl) (by rfl) (by rfl)) (SA.cons (SE.add (SE.v 6 (by rfl) (by rfl) (by rfl) (by rfl)) SE.int) SA.nil (by rfl)) (by rfl)) (by rfl))) (SA.cons (SE.tup (SA.cons (SE.v 4 (by rfl) (by rfl) (by rfl) (by rfl)) (SA.cons (SE.v 5 (by rfl) (by rfl) (by rfl) (by rfl)) (SA.cons (SE.sub (SE.v 6 (by rfl) (by rfl) (by rfl) (by rfl)) SE.int) SA.nil (by rfl)) (by rfl)) (by rfl))) SA.nil (by rfl)) (by rfl)) (by rfl)) (by rfl)) (by rfl))) (by rfl) (by rfl))
      (SSs.cons (SS.st (i := 7) sc__law_papers_hold.nd (by rfl) (by rfl) (SE.add (SE.v 7 (by rfl) (by rfl) (by rfl) (by rfl)) (SE.lst (SA.cons (SE.tup (SA.cons (SE.v 5 (by rfl) (by rfl) (by rfl) (by rfl)) (SA.cons (SE.v 4 (by rfl) (by rfl) (by rfl) (by rfl)) (SA.cons (SE.v 6 (by rfl) (by rfl) (by rfl) (by rfl)) SA.nil (by rfl)) (by rfl)) (by rfl))) (SA.cons (SE.tup (SA.cons (SE.sl (SE.v 4 (by rfl) (by rfl) (by rfl) (by rfl)) (SO.some SE.int) SO.none) (SA.cons (SE.v 5 (by rfl) (by rfl) (by rfl) (by rfl)) (SA.cons (SE.v 6 (by rfl) (by rfl) (by rfl) (by rfl)) SA.nil (by rfl)) (by rfl)) (by rfl))) (SA.cons (SE.tup (SA.cons (SE.v 4 (by rfl) (by rfl) (by rfl) (by rfl)) (SA.cons (SE.lst SA.nil) (SA.cons (SE.v 6 (by rfl) (by rfl) (by rfl) (by rfl)) SA.nil (by rfl)) (by rfl)) (by rfl))) (SA.cons (SE.tup (SA.cons (SE.lst SA.nil) (SA.cons (SE.lst SA.nil) (SA.cons (SE.sub SE.int SE.int) SA.nil (by rfl)) (by rfl)) (by rfl))) (SA.cons (SE.tup (SA.cons (SE.v 4 (by rfl) (by rfl) (by rfl) (by rfl)) (SA.cons (SE.v 4 (by rfl) (by rfl) (by rfl) (by rfl)) (SA.cons (SE.len (by rfl) m_len (SE.v 2 (by rfl) (by rfl) (by rfl) (by rfl)) (by rfl)) SA.nil (by rfl)) (by rfl)) (by rfl))) SA.nil (by rfl)) (by rfl)) (by rfl)) (by rfl)) (by rfl)))) (by rfl) (by rfl))
      (SSs.cons (SS.for PassesOwn.never (by rfl) (SI.range1 (by rfl) m_range (SA.cons SE.int SA.nil (by rfl)) (by rfl)) (SG.n (i := 8) sc__law_papers_hold.nd (by rfl) (by rfl) (by rfl)) (SSs.cons (SS.ite (ST.cmp (SE.len (by rfl) m_len (SE.v 4 (by rfl) (by rfl) (by rfl) (by rfl)) (by rfl)) SE.int (cmp_gt) (by rfl)) (SSs.cons (SS.st (i := 9) sc__law_papers_hold.nd (by rfl) (by rfl) (SE.callF c__law_draw hr (by rfl) (i := 0) (by rfl) (vis_of (by rfl)) (by rfl) (by rfl) (SA.cons (SE.len (by rfl) m_len (SE.v 4 (by rfl) (by rfl) (by rfl) (by rfl)) (by rfl)) SA.nil (by rfl)) (by rfl) (by rfl) (by rfl)) (by rfl) (by rfl))
      (SSs.one (SS.expr (SE.meth (i := 7) PySem.F.slot_list_append PySem.F.type_list_append mt_append me_append (by rfl) (vis_of (by rfl)) (by rfl) (by rfl) (SA.cons (SE.tup (SA.cons (SE.add (SE.add (SE.sl (SE.v 4 (by rfl) (by rfl) (by rfl) (by rfl)) SO.none (SO.some (SE.v 9 (by rfl) (by rfl) (by rfl) (by rfl)))) (SE.lst (SA.cons (SE.mod (SE.int1 (by rfl) m_int (SE.add (SE.add (SE.ix (SE.v 4 (by rfl) (by rfl) (by rfl) (by rfl)) (SE.v 9 (by rfl) (by rfl) (by rfl) (by rfl)) (fun _ _ => (by rfl))) SE.int) (SE.callF c__law_draw hr (by rfl) (i := 0) (by rfl) (vis_of (by rfl)) (by rfl) (by rfl) (SA.cons (SE.sub (SE.v 1 (by rfl) (by rfl) (by rfl) (by rfl)) SE.int) SA.nil (by rfl)) (by rfl) (by rfl) (by rfl))) (by rfl)) (SE.v 1 (by rfl) (by rfl) (by rfl) (by rfl))) SA.nil (by rfl)))) (SE.sl (SE.v 4 (by rfl) (by rfl) (by rfl) (by rfl)) (SO.some (SE.add (SE.v 9 (by rfl) (by rfl) (by rfl) (by rfl)) SE.int)) SO.none)) (SA.cons (SE.v 5 (by rfl) (by rfl) (by rfl) (by rfl)) (SA.cons (SE.v 6 (by rfl) (by rfl) (by rfl) (by rfl)) SA.nil (by rfl)) (by rfl)) (by rfl))) SA.nil (by rfl)) (by rfl) (by rfl) (by rfl) (by rfl)) (by rfl)))) SSs.nil)
      (SSs.one (SS.ite (ST.cmp (SE.len (by rfl) m_len (SE.v 5 (by rfl) (by rfl) (by rfl) (by rfl)) (by rfl)) SE.int (cmp_gt) (by rfl)) (SSs.cons (SS.st (i := 9) sc__law_papers_hold.nd (by rfl) (by rfl) (SE.callF c__law_draw hr (by rfl) (i := 0) (by rfl) (vis_of (by rfl)) (by rfl) (by rfl) (SA.cons (SE.len (by rfl) m_len (SE.v 5 (by rfl) (by rfl) (by rfl) (by rfl)) (by rfl)) SA.nil (by rfl)) (by rfl) (by rfl) (by rfl)) (by rfl) (by rfl))
      (SSs.one (SS.expr (SE.meth (i := 7) PySem.F.slot_list_append PySem.F.type_list_append mt_append me_append (by rfl) (vis_of (by rfl)) (by rfl) (by rfl) (SA.cons (SE.tup (SA.cons (SE.v 4 (by rfl) (by rfl) (by rfl) (by rfl)) (SA.cons (SE.add (SE.add (SE.sl (SE.v 5 (by rfl) (by rfl) (by rfl) (by rfl)) SO.none (SO.some (SE.v 9 (by rfl) (by rfl) (by rfl) (by rfl)))) (SE.lst (SA.cons (SE.mod (SE.int1 (by rfl) m_int (SE.add (SE.add (SE.ix (SE.v 5 (by rfl) (by rfl) (by rfl) (by rfl)) (SE.v 9 (by rfl) (by rfl) (by rfl) (by rfl)) (fun _ _ => (by rfl))) SE.int) (SE.callF c__law_draw hr (by rfl) (i := 0) (by rfl) (vis_of (by rfl)) (by rfl) (by rfl) (SA.cons (SE.sub (SE.v 1 (by rfl) (by rfl) (by rfl) (by rfl)) SE.int) SA.nil (by rfl)) (by rfl) (by rfl) (by rfl))) (by rfl)) (SE.v 1 (by rfl) (by rfl) (by rfl) (by rfl))) SA.nil (by rfl)))) (SE.sl (SE.v 5 (by rfl) (by rfl) (by rfl) (by rfl)) (SO.some (SE.add (SE.v 9 (by rfl) (by rfl) (by rfl) (by rfl)) SE.int)) SO.none)) (SA.cons (SE.v 6 (by rfl) (by rfl) (by rfl) (by rfl)) SA.nil (by rfl)) (by rfl)) (by rfl))) SA.nil (by rfl)) (by rfl) (by rfl) (by rfl) (by rfl)) (by rfl)))) SSs.nil))) (fun _ => (by rfl)))
      (SSs.cons (SS.for PassesOwn.never (by rfl) (SI.seq (SE.v 7 (by rfl) (by rfl) (by rfl) (by rfl))) (SG.tup (n := 3) (by rfl) (SGs.cons (SG.n (i := 10) sc__law_papers_hold.nd (by rfl) (by rfl) (by rfl)) (SGs.cons (SG.n (i := 11) sc__law_papers_hold.nd (by rfl) (by rfl) (by rfl)) (SGs.cons (SG.n (i := 12) sc__law_papers_hold.nd (by rfl) (by rfl) (by rfl)) SGs.nil (by rfl)) (by rfl)) (by rfl)) (by rfl) (by rfl)) (SSs.one (SS.ite (SW.test (SW.and (ST.cmp (SE.len (by rfl) m_len (SE.v 10 (by rfl) (by rfl) (by rfl) (by rfl)) (by rfl)) SE.int (cmp_le) (by rfl)) (SW.and1 (ST.cmp (SE.len (by rfl) m_len (SE.v 11 (by rfl) (by rfl) (by rfl) (by rfl)) (by rfl)) SE.int (cmp_le) (by rfl))))) (SSs.one (SS.ite (ST.not (SE.truth (SE.callP c__law_same hr (by rfl) (SA.cons (SE.callP c_shows_least_register hr (by rfl) (SA.cons (SE.v 1 (by rfl) (by rfl) (by rfl) (by rfl)) (SA.cons (SE.v 2 (by rfl) (by rfl) (by rfl) (by rfl)) (SA.cons (SE.list1 (by rfl) m_list (SE.v 10 (by rfl) (by rfl) (by rfl) (by rfl)) (by rfl)) (SA.cons (SE.list1 (by rfl) m_list (SE.v 11 (by rfl) (by rfl) (by rfl) (by rfl)) (by rfl)) (SA.cons (SE.v 12 (by rfl) (by rfl) (by rfl) (by rfl)) SA.nil (by rfl)) (by rfl)) (by rfl)) (by rfl)) (by rfl)) (by rfl) (by rfl) (by rfl)) (SA.cons (SE.callP c__law_shown hr (by rfl) (SA.cons (SE.v 1 (by rfl) (by rfl) (by rfl) (by rfl)) (SA.cons (SE.v 2 (by rfl) (by rfl) (by rfl) (by rfl)) (SA.cons (SE.v 10 (by rfl) (by rfl) (by rfl) (by rfl)) (SA.cons (SE.v 11 (by rfl) (by rfl) (by rfl) (by rfl)) (SA.cons (SE.v 12 (by rfl) (by rfl) (by rfl) (by rfl)) SA.nil (by rfl)) (by rfl)) (by rfl)) (by rfl)) (by rfl)) (by rfl) (by rfl) (by rfl)) SA.nil (by rfl)) (by rfl)) (by rfl) (by rfl) (by rfl)) (fun _ => (by rfl)))) (SSs.one (SS.ret SE.bl)) SSs.nil)) SSs.nil)) (fun _ => (by rfl)))
      (SSs.cons (SS.for PassesOwn.never (by rfl) (SI.seq (SE.lst (SA.cons (SE.tup (SA.cons SE.non (SA.cons (SE.v 5 (by rfl) (by rfl) (by rfl) (by rfl)) (SA.cons (SE.v 6 (by rfl) (by rfl) (by rfl) (by rfl)) SA.nil (by rfl)) (by rfl)) (by rfl))) (SA.cons (SE.tup (SA.cons (SE.tuple1 (by rfl) m_tuple (SE.v 4 (by rfl) (by rfl) (by rfl) (by rfl)) (by rfl)) (SA.cons (SE.v 5 (by rfl) (by rfl) (by rfl) (by rfl)) (SA.cons (SE.v 6 (by rfl) (by rfl) (by rfl) (by rfl)) SA.nil (by rfl)) (by rfl)) (by rfl))) (SA.cons (SE.tup (SA.cons (SE.v 4 (by rfl) (by rfl) (by rfl) (by rfl)) (SA.cons SE.non (SA.cons (SE.v 6 (by rfl) (by rfl) (by rfl) (by rfl)) SA.nil (by rfl)) (by rfl)) (by rfl))) (SA.cons (SE.tup (SA.cons (SE.v 4 (by rfl) (by rfl) (by rfl) (by rfl)) (SA.cons (SE.tuple1 (by rfl) m_tuple (SE.v 5 (by rfl) (by rfl) (by rfl) (by rfl)) (by rfl)) (SA.cons (SE.v 6 (by rfl) (by rfl) (by rfl) (by rfl)) SA.nil (by rfl)) (by rfl)) (by rfl))) (SA.cons (SE.tup (SA.cons (SE.v 4 (by rfl) (by rfl) (by rfl) (by rfl)) (SA.cons (SE.v 5 (by rfl) (by rfl) (by rfl) (by rfl)) (SA.cons SE.non SA.nil (by rfl)) (by rfl)) (by rfl))) (SA.cons (SE.tup (SA.cons (SE.v 4 (by rfl) (by rfl) (by rfl) (by rfl)) (SA.cons (SE.v 5 (by rfl) (by rfl) (by rfl) (by rfl)) (SA.cons (SE.lst (SA.cons (SE.v 6 (by rfl) (by rfl) (by rfl) (by rfl)) SA.nil (by rfl))) SA.nil (by rfl)) (by rfl)) (by rfl))) SA.nil (by rfl)) (by rfl)) (by rfl)) (by rfl)) (by rfl)) (by rfl)))) (SG.tup (n := 3) (by rfl) (SGs.cons (SG.n (i := 10) sc__law_papers_hold.nd (by rfl) (by rfl) (by rfl)) (SGs.cons (SG.n (i := 11) sc__law_papers_hold.nd (by rfl) (by rfl) (by rfl)) (SGs.cons (SG.n (i := 12) sc__law_papers_hold.nd (by rfl) (by rfl) (by rfl)) SGs.nil (by rfl)) (by rfl)) (by rfl)) (by rfl) (by rfl)) (SSs.one (SS.ite (ST.cmp (SE.callP c_shows_least_register hr (by rfl) (SA.cons (SE.v 1 (by rfl) (by rfl) (by rfl) (by rfl)) (SA.cons (SE.v 2 (by rfl) (by rfl) (by rfl) (by rfl)) (SA.cons (SE.v 10 (by rfl) (by rfl) (by rfl) (by rfl)) (SA.cons (SE.v 11 (by rfl) (by rfl) (by rfl) (by rfl)) (SA.cons (SE.v 12 (by rfl) (by rfl) (by rfl) (by rfl)) SA.nil (by rfl)) (by rfl)) (by rfl)) (by rfl)) (by rfl)) (by rfl) (by rfl) (by rfl)) SE.bl (cmp_isNot) (by rfl)) (SSs.one (SS.ret SE.bl)) SSs.nil)) (fun _ => (by rfl)))
      (SSs.one (SS.ret (SE.andV (SE.cmp (SE.callP c_shows_least_register hr (by rfl) (SA.cons (SE.v 1 (by rfl) (by rfl) (by rfl) (by rfl)) (SA.cons (SE.v 2 (by rfl) (by rfl) (by rfl) (by rfl)) (SA.cons (SE.add (SE.v 4 (by rfl) (by rfl) (by rfl) (by rfl)) (SE.lst (SA.cons (SE.v 1 (by rfl) (by rfl) (by rfl) (by rfl)) SA.nil (by rfl)))) (SA.cons (SE.v 5 (by rfl) (by rfl) (by rfl) (by rfl)) (SA.cons (SE.v 6 (by rfl) (by rfl) (by rfl) (by rfl)) SA.nil (by rfl)) (by rfl)) (by rfl)) (by rfl)) (by rfl)) (by rfl) (by rfl) (by rfl)) SE.bl (cmp_is) (by rfl)) (SE.one (SE.cmp (SE.callP c_shows_least_register hr (by rfl) (SA.cons (SE.v 1 (by rfl) (by rfl) (by rfl) (by rfl)) (SA.cons (SE.v 2 (by rfl) (by rfl) (by rfl) (by rfl)) (SA.cons (SE.v 4 (by rfl) (by rfl) (by rfl) (by rfl)) (SA.cons (SE.add (SE.v 5 (by rfl) (by rfl) (by rfl) (by rfl)) (SE.lst (SA.cons (SE.sub SE.int SE.int) SA.nil (by rfl)))) (SA.cons (SE.add (SE.v 6 (by rfl) (by rfl) (by rfl) (by rfl)) SE.int) SA.nil (by rfl)) (by rfl)) (by rfl)) (by rfl)) (by rfl)) (by rfl) (by rfl) (by rfl)) SE.bl (cmp_is) (by rfl))))))))))))
abbrev s_law : Stmt := topS 31
theorem sc_law : FnScope ["script", "feed", "turn", "p", "row", "kept", "told", "lengths", "size", "taps", "begun", "many"] ["script"] (defScope s_law) := ⟨rfl, rfl, rfl, by decide +kernel, rfl, by decide +kernel, by decide +kernel⟩
def E_law (script feed turn p row kept told lengths size taps begun many : L) : REnv := [script, feed, turn, p, row, kept, told, lengths, size, taps, begun, many]
def t_law_1 : DenS := (dSet 1 (dCallP 1 f__law_feed (dCons (gVar 0) dNil)))
def t_law_2 : DenS := (dSet 3 (den2 gIx (dLst (dCons (gC (.int 2)) (dCons (gC (.int 3)) (dCons (gC (.int 5)) (dCons (gC (.int 7)) dNil))))) (den2 gMod (den1 gInt (den2 gAdd (gVar 2) (dCallF 2 1 g__law_draw (dCons (gC (.int 4)) dNil)))) (gC (.int 4)))))
def t_law_3 : DenS := (dSet 4 (dCallF 2 1 g__law_row (dCons (dFrz 3) dNil)))
def t_law_4 : DenS := (dSet 5 (den1 gList (gVar 4)))
def t_law_5 : DenS := (dSet 6 (dCallP 2 f_least_register (dCons (dFrz 3) (dCons (dFrz 4) dNil))))
def b_law_1 : DenT := (dOr (dNot (dTru (den1 (gIsi "tuple") (gVar 6)))) (dOr (dBl (den2 (gB gNe) (den1 gLen (gVar 6)) (gC (.int 3)))) (dOr (dNot (dTru (dCallP 2 f__law_are_numbers (dCons (den2 gIx (gVar 6) (gC (.int 0))) (dCons (dFrz 3) dNil))))) (dNot (dTru (dCallP 2 f__law_are_numbers (dCons (den2 gIx (gVar 6) (gC (.int 1))) (dCons (dFrz 3) dNil))))))))
def t_law_6 : DenS := (dRet (gC (.bl false)))
def t_law_7 : DenS := (dIfS b_law_1 t_law_6 dNx)
def t_law_8 : DenS := (dSet 7 (dCallP 2 f__law_lengths (dCons (dFrz 3) (dCons (dFrz 4) dNil))))
def t_law_9 : DenS := (dSet 8 (den2 gIx (den2 gAdd (dLst (dCons (gC (.int 0)) dNil)) (gVar 7)) (den1 gNeg (gC (.int 1)))))
def b_law_2 : DenT := (dOr (dNot (dTru (den1 (gIsi "int") (den2 gIx (gVar 6) (gC (.int 2)))))) (dOr (dTru (den1 (gIsi "bool") (den2 gIx (gVar 6) (gC (.int 2))))) (dBl (den2 (gB gNe) (den1 gLen (den2 gIx (gVar 6) (gC (.int 0)))) (gVar 8)))))
def t_law_10 : DenS := (dRet (gC (.bl false)))
def t_law_11 : DenS := (dIfS b_law_2 t_law_10 dNx)
def b_law_3 : DenT := (dNot (dTru (dCallP 5 f__law_shown (dCons (dFrz 3) (dCons (dFrz 4) (dCons (den2 gIx (gVar 6) (gC (.int 0))) (dCons (den2 gIx (gVar 6) (gC (.int 1))) (dCons (den2 gIx (gVar 6) (gC (.int 2))) dNil))))))))
def t_law_12 : DenS := (dRet (gC (.bl false)))
def t_law_13 : DenS := (dIfS b_law_3 t_law_12 dNx)
def b_law_4 : DenT := (dOr (dNot (dTru (dCallP 2 (f__law_same 5) (dCons (dCallP 2 f_lengths_along (dCons (dFrz 3) (dCons (dFrz 4) dNil))) (dCons (dFrz 7) dNil))))) (dNot (dTru (dCallP 2 (f__law_same 5) (dCons (dCallP 2 f_is_only (dCons (dFrz 3) (dCons (dFrz 4) dNil))) (dCons (den2 (gB gLe) (den2 gMul (gC (.int 2)) (gVar 8)) (den1 gLen (gVar 4))) dNil))))))
def t_law_14 : DenS := (dRet (gC (.bl false)))
def t_law_15 : DenS := (dIfS b_law_4 t_law_14 dNx)
def b_law_5 : DenT := (dOr (dNot (dTru (dCallF 4 1 g__law_papers_hold (dCons (dFrz 3) (dCons (dFrz 4) (dCons (dFrz 6) dNil)))))) (dBl (den2 (gB gNe) (gVar 4) (gVar 5))))
def t_law_16 : DenS := (dRet (gC (.bl false)))
def t_law_17 : DenS := (dIfS b_law_5 t_law_16 dNx)
def t_law_18 : DenS := (dSet 9 (dCallF 3 1 g__law_drawn_numbers (dCons (dFrz 3) (dCons (dCallF 2 1 g__law_draw (dCons (gC (.int 21)) dNil)) dNil))))
def t_law_19 : DenS := (dSet 10 (dCallF 3 1 g__law_drawn_numbers (dCons (dFrz 3) (dCons (den1 gLen (gVar 9)) dNil))))
def t_law_20 : DenS := (dSet 11 (dCallF 2 1 g__law_draw (dCons (den2 gIx (dLst (dCons (gC (.int 12)) (dCons (gC (.int 201)) dNil))) (dCallF 2 1 g__law_draw (dCons (gC (.int 2)) dNil))) dNil)))
def b_law_6 : DenT := (dNot (dTru (dCallP 2 (f__law_same 5) (dCons (dCallP 4 f_register_row (dCons (dFrz 3) (dCons (den1 gList (gVar 9)) (dCons (den1 gList (gVar 10)) (dCons (gVar 11) dNil))))) (dCons (dCallP 4 f__law_register_row (dCons (dFrz 3) (dCons (dFrz 9) (dCons (dFrz 10) (dCons (gVar 11) dNil))))) dNil)))))
def t_law_21 : DenS := (dRet (gC (.bl false)))
def t_law_22 : DenS := (dIfS b_law_6 t_law_21 dNx)
def l_law_1 : DenS := (dSeq t_law_2
  (dSeq t_law_3
  (dSeq t_law_4
  (dSeq t_law_5
  (dSeq t_law_7
  (dSeq t_law_8
  (dSeq t_law_9
  (dSeq t_law_11
  (dSeq t_law_13
  (dSeq t_law_15
  (dSeq t_law_17
  (dSeq t_law_18
  (dSeq t_law_19
  (dSeq t_law_20
  t_law_22))))))))))))))
def t_law_23 : DenS := (dFor [2, 3, 4, 5, 6, 7, 8, 9, 10, 11] (iRange1 (dCons (gC (.int 3)) dNil)) (gNameT 2) l_law_1)
def t_law_24 : DenS := (dRet (gC (.bl true)))
def d_law : DenS := (dSeq t_law_1
  (dSeq t_law_23
  t_law_24))
def f_law : List T → Option L := bodyP 1 12 d_law
theorem ok_law (F : Fun K "law" "law" s_law f fd) (c__law_are_numbers : Fn P w K mg base fa k "_law_are_numbers" 2 (pureF f__law_are_numbers)) (c__law_draw : Fn P w K mg base fa k "_law_draw" 2 (feedF g__law_draw)) (c__law_drawn_numbers : Fn P w K mg base fa k "_law_drawn_numbers" 3 (feedF g__law_drawn_numbers)) (c__law_feed : Fn P w K mg base fa k "_law_feed" 1 (pureF f__law_feed)) (c__law_lengths : Fn P w K mg base fa k "_law_lengths" 2 (pureF f__law_lengths)) (c__law_papers_hold : Fn P w K mg base fa k "_law_papers_hold" 4 (feedF g__law_papers_hold)) (c__law_register_row : Fn P w K mg base fa k "_law_register_row" 4 (pureF f__law_register_row)) (c__law_row : Fn P w K mg base fa k "_law_row" 2 (feedF g__law_row)) (c__law_same : Fn P w K mg base fa k "_law_same" 2 (pureF (f__law_same 5))) (c__law_shown : Fn P w K mg base fa k "_law_shown" 5 (pureF f__law_shown)) (c_is_only : Fn P w K mg base fa k "is_only" 2 (pureF f_is_only)) (c_least_register : Fn P w K mg base fa k "least_register" 2 (pureF f_least_register)) (c_lengths_along : Fn P w K mg base fa k "lengths_along" 2 (pureF f_lengths_along)) (c_register_row : Fn P w K mg base fa k "register_row" 4 (pureF f_register_row)) (m_bool : mg "bool" = none) (m_int : mg "int" = none) (m_isinstance : mg "isinstance" = none) (m_len : mg "len" = none) (m_list : mg "list" = none) (m_range : mg "range" = none) (m_tuple : mg "tuple" = none) : FnL P w K mg base fa (k + 1) f fd ["script"] (pureF f_law) :=
  fn_pureL (N := ["script", "feed", "turn", "p", "row", "kept", "told", "lengths", "size", "taps", "begun", "many"]) (as := [1, 2, 3, 4, 5, 6, 7, 8, 9, 10, 11]) (d := d_law) F sc_law fun cdv A outer s H E hr => (SSs.cons (SS.st (i := 1) sc_law.nd (by rfl) (by rfl) (SE.callP c__law_feed hr (by rfl) (SA.cons (SE.v 0 (by rfl) (by rfl) (by rfl) (by rfl)) SA.nil (by rfl)) (by rfl) (by rfl) (by rfl)) (by rfl) (by rfl))
      (SSs.cons (SS.for PassesOwn.never (by rfl) (SI.range1 (by rfl) m_range (SA.cons SE.int SA.nil (by rfl)) (by rfl)) (SG.n (i := 2) sc_law.nd (by rfl) (by rfl) (by rfl)) (SSs.cons (SS.st (i := 3) sc_law.nd (by rfl) (by rfl) (SE.ix (SE.lst (SA.cons SE.int (SA.cons SE.int (SA.cons SE.int (SA.cons SE.int SA.nil (by rfl)) (by rfl)) (by rfl)) (by rfl))) (SE.mod (SE.int1 (by rfl) m_int (SE.add (SE.v 2 (by rfl) (by rfl) (by rfl) (by rfl)) (SE.callF c__law_draw hr (by rfl) (i := 1) (by rfl) (vis_of (by rfl)) (by rfl) (by rfl) (SA.cons SE.int SA.nil (by rfl)) (by rfl) (by rfl) (by rfl))) (by rfl)) SE.int) (fun _ _ => (by rfl))) (by rfl) (by rfl))
      (SSs.cons (SS.st (i := 4) sc_law.nd (by rfl) (by rfl) (SE.callF c__law_row hr (by rfl) (i := 1) (by rfl) (vis_of (by rfl)) (by rfl) (by rfl) (SA.cons (SE.frz (SE.v 3 (by rfl) (by rfl) (by rfl) (by rfl))) SA.nil (by rfl)) (by rfl) (by rfl) (by rfl)) (by rfl) (by rfl))
      (SSs.cons (SS.st (i := 5) sc_law.nd (by rfl) (by rfl) (SE.list1 (by rfl) m_list (SE.v 4 (by rfl) (by rfl) (by rfl) (by rfl)) (by rfl)) (by rfl) (by rfl))
      (SSs.cons (SS.st (i := 6) sc_law.nd (by rfl) (by rfl) (SE.callP c_least_register hr (by rfl) (SA.cons (SE.frz (SE.v 3 (by rfl) (by rfl) (by rfl) (by rfl))) (SA.cons (SE.frz (SE.v 4 (by rfl) (by rfl) (by rfl) (by rfl))) SA.nil (by rfl)) (by rfl)) (by rfl) (by rfl) (by rfl)) (by rfl) (by rfl))
      (SSs.cons (SS.ite (SW.test (SW.or (ST.not (SE.truth (SE.isi (by rfl) m_isinstance (by rfl) m_tuple (by decide +kernel) (by decide) (by rfl) (SE.v 6 (by rfl) (by rfl) (by rfl) (by rfl)) (by rfl)) (fun _ => (by rfl)))) (SW.or (ST.cmp (SE.len (by rfl) m_len (SE.v 6 (by rfl) (by rfl) (by rfl) (by rfl)) (by rfl)) SE.int (cmp_ne (room64 hr)) (by rfl)) (SW.or (ST.not (SE.truth (SE.callP c__law_are_numbers hr (by rfl) (SA.cons (SE.ix (SE.v 6 (by rfl) (by rfl) (by rfl) (by rfl)) SE.int (fun _ _ => (by rfl))) (SA.cons (SE.frz (SE.v 3 (by rfl) (by rfl) (by rfl) (by rfl))) SA.nil (by rfl)) (by rfl)) (by rfl) (by rfl) (by rfl)) (fun _ => (by rfl)))) (SW.or1 (ST.not (SE.truth (SE.callP c__law_are_numbers hr (by rfl) (SA.cons (SE.ix (SE.v 6 (by rfl) (by rfl) (by rfl) (by rfl)) SE.int (fun _ _ => (by rfl))) (SA.cons (SE.frz (SE.v 3 (by rfl) (by rfl) (by rfl) (by rfl))) SA.nil (by rfl)) (by rfl)) (by rfl) (by rfl) (by rfl)) (fun _ => (by rfl))))))))) (SSs.one (SS.ret SE.bl)) SSs.nil)
      (SSs.cons (SS.st (i := 7) sc_law.nd (by rfl) (by rfl) (SE.callP c__law_lengths hr (by rfl) (SA.cons (SE.frz (SE.v 3 (by rfl) (by rfl) (by rfl) (by rfl))) (SA.cons (SE.frz (SE.v 4 (by rfl) (by rfl) (by rfl) (by rfl))) SA.nil (by rfl)) (by rfl)) (by rfl) (by rfl) (by rfl)) (by rfl) (by rfl))
      (SSs.cons (SS.st (i := 8) sc_law.nd (by rfl) (by rfl) (SE.ix (SE.add (SE.lst (SA.cons SE.int SA.nil (by rfl))) (SE.v 7 (by rfl) (by rfl) (by rfl) (by rfl))) (SE.neg SE.int) (fun _ _ => (by rfl))) (by rfl) (by rfl))
      (SSs.cons (SS.ite (SW.test (SW.or (ST.not (SE.truth (SE.isi (by rfl) m_isinstance (by rfl) m_int (by decide +kernel) (by decide) (by rfl) (SE.ix (SE.v 6 (by rfl) (by rfl) (by rfl) (by rfl)) SE.int (fun _ _ => (by rfl))) (by rfl)) (fun _ => (by rfl)))) (SW.or (SE.truth (SE.isi (by rfl) m_isinstance (by rfl) m_bool (by decide +kernel) (by decide) (by rfl) (SE.ix (SE.v 6 (by rfl) (by rfl) (by rfl) (by rfl)) SE.int (fun _ _ => (by rfl))) (by rfl)) (fun _ => (by rfl))) (SW.or1 (ST.cmp (SE.len (by rfl) m_len (SE.ix (SE.v 6 (by rfl) (by rfl) (by rfl) (by rfl)) SE.int (fun _ _ => (by rfl))) (by rfl)) (SE.v 8 (by rfl) (by rfl) (by rfl) (by rfl)) (cmp_ne (room64 hr)) (by rfl)))))) (SSs.one (SS.ret SE.bl)) SSs.nil)
      (SSs.cons (SS.ite (ST.not (SE.truth (SE.callP c__law_shown hr (by rfl) (SA.cons (SE.frz (SE.v 3 (by rfl) (by rfl) (by rfl) (by rfl))) (SA.cons (SE.frz (SE.v 4 (by rfl) (by rfl) (by rfl) (by rfl))) (SA.cons (SE.ix (SE.v 6 (by rfl) (by rfl) (by rfl) (by rfl)) SE.int (fun _ _ => (by rfl))) (SA.cons (SE.ix (SE.v 6 (by rfl) (by rfl) (by rfl) (by rfl)) SE.int (fun _ _ => (by rfl))) (SA.cons (SE.ix (SE.v 6 (by rfl) (by rfl) (by rfl) (by rfl)) SE.int (fun _ _ => (by rfl))) SA.nil (by rfl)) (by rfl)) (by rfl)) (by rfl)) (by rfl)) (by rfl) (by rfl) (by rfl)) (fun _ => (by rfl)))) (SSs.one (SS.ret SE.bl)) SSs.nil)
      (SSs.cons (SS.ite (SW.test (SW.or (ST.not (SE.truth (SE.callP c__law_same hr (by rfl) (SA.cons (SE.callP c_lengths_along hr (by rfl) (SA.cons (SE.frz (SE.v 3 (by rfl) (by rfl) (by rfl) (by rfl))) (SA.cons (SE.frz (SE.v 4 (by rfl) (by rfl) (by rfl) (by rfl))) SA.nil (by rfl)) (by rfl)) (by rfl) (by rfl) (by rfl)) (SA.cons (SE.frz (SE.v 7 (by rfl) (by rfl) (by rfl) (by rfl))) SA.nil (by rfl)) (by rfl)) (by rfl) (by rfl) (by rfl)) (fun _ => (by rfl)))) (SW.or1 (ST.not (SE.truth (SE.callP c__law_same hr (by rfl) (SA.cons (SE.callP c_is_only hr (by rfl) (SA.cons (SE.frz (SE.v 3 (by rfl) (by rfl) (by rfl) (by rfl))) (SA.cons (SE.frz (SE.v 4 (by rfl) (by rfl) (by rfl) (by rfl))) SA.nil (by rfl)) (by rfl)) (by rfl) (by rfl) (by rfl)) (SA.cons (SE.cmp (SE.mul SE.int (SE.v 8 (by rfl) (by rfl) (by rfl) (by rfl))) (SE.len (by rfl) m_len (SE.v 4 (by rfl) (by rfl) (by rfl) (by rfl)) (by rfl)) (cmp_le) (by rfl)) SA.nil (by rfl)) (by rfl)) (by rfl) (by rfl) (by rfl)) (fun _ => (by rfl))))))) (SSs.one (SS.ret SE.bl)) SSs.nil)
      (SSs.cons (SS.ite (SW.test (SW.or (ST.not (SE.truth (SE.callF c__law_papers_hold hr (by rfl) (i := 1) (by rfl) (vis_of (by rfl)) (by rfl) (by rfl) (SA.cons (SE.frz (SE.v 3 (by rfl) (by rfl) (by rfl) (by rfl))) (SA.cons (SE.frz (SE.v 4 (by rfl) (by rfl) (by rfl) (by rfl))) (SA.cons (SE.frz (SE.v 6 (by rfl) (by rfl) (by rfl) (by rfl))) SA.nil (by rfl)) (by rfl)) (by rfl)) (by rfl) (by rfl) (by rfl)) (fun _ => (by rfl)))) (SW.or1 (ST.cmp (SE.v 4 (by rfl) (by rfl) (by rfl) (by rfl)) (SE.v 5 (by rfl) (by rfl) (by rfl) (by rfl)) (cmp_ne (room64 hr)) (by rfl))))) (SSs.one (SS.ret SE.bl)) SSs.nil)
      (SSs.cons (SS.st (i := 9) sc_law.nd (by rfl) (by rfl) (SE.callF c__law_drawn_numbers hr (by rfl) (i := 1) (by rfl) (vis_of (by rfl)) (by rfl) (by rfl) (SA.cons (SE.frz (SE.v 3 (by rfl) (by rfl) (by rfl) (by rfl))) (SA.cons (SE.callF c__law_draw hr (by rfl) (i := 1) (by rfl) (vis_of (by rfl)) (by rfl) (by rfl) (SA.cons SE.int SA.nil (by rfl)) (by rfl) (by rfl) (by rfl)) SA.nil (by rfl)) (by rfl)) (by rfl) (by rfl) (by rfl)) (by rfl) (by rfl))
      (SSs.cons (SS.st (i := 10) sc_law.nd (by rfl) (by rfl) (SE.callF c__law_drawn_numbers hr (by rfl) (i := 1) (by rfl) (vis_of (by rfl)) (by rfl) (by rfl) (SA.cons (SE.frz (SE.v 3 (by rfl) (by rfl) (by rfl) (by rfl))) (SA.cons (SE.len (by rfl) m_len (SE.v 9 (by rfl) (by rfl) (by rfl) (by rfl)) (by rfl)) SA.nil (by rfl)) (by rfl)) (by rfl) (by rfl) (by rfl)) (by rfl) (by rfl))
      (SSs.cons (SS.st (i := 11) sc_law.nd (by rfl) (by rfl) (SE.callF c__law_draw hr (by rfl) (i := 1) (by rfl) (vis_of (by rfl)) (by rfl) (by rfl) (SA.cons (SE.ix (SE.lst (SA.cons SE.int (SA.cons SE.int SA.nil (by rfl)) (by rfl))) (SE.callF c__law_draw hr (by rfl) (i := 1) (by rfl) (vis_of (by rfl)) (by rfl) (by rfl) (SA.cons SE.int SA.nil (by rfl)) (by rfl) (by rfl) (by rfl)) (fun _ _ => (by rfl))) SA.nil (by rfl)) (by rfl) (by rfl) (by rfl)) (by rfl) (by rfl))
      (SSs.one (SS.ite (ST.not (SE.truth (SE.callP c__law_same hr (by rfl) (SA.cons (SE.callP c_register_row hr (by rfl) (SA.cons (SE.frz (SE.v 3 (by rfl) (by rfl) (by rfl) (by rfl))) (SA.cons (SE.list1 (by rfl) m_list (SE.v 9 (by rfl) (by rfl) (by rfl) (by rfl)) (by rfl)) (SA.cons (SE.list1 (by rfl) m_list (SE.v 10 (by rfl) (by rfl) (by rfl) (by rfl)) (by rfl)) (SA.cons (SE.v 11 (by rfl) (by rfl) (by rfl) (by rfl)) SA.nil (by rfl)) (by rfl)) (by rfl)) (by rfl)) (by rfl) (by rfl) (by rfl)) (SA.cons (SE.callP c__law_register_row hr (by rfl) (SA.cons (SE.frz (SE.v 3 (by rfl) (by rfl) (by rfl) (by rfl))) (SA.cons (SE.frz (SE.v 9 (by rfl) (by rfl) (by rfl) (by rfl))) (SA.cons (SE.frz (SE.v 10 (by rfl) (by rfl) (by rfl) (by rfl))) (SA.cons (SE.v 11 (by rfl) (by rfl) (by rfl) (by rfl)) SA.nil (by rfl)) (by rfl)) (by rfl)) (by rfl)) (by rfl) (by rfl) (by rfl)) SA.nil (by rfl)) (by rfl)) (by rfl) (by rfl) (by rfl)) (fun _ => (by rfl)))) (SSs.one (SS.ret SE.bl)) SSs.nil)))))))))))))))) (fun _ => (by rfl)))
      (SSs.one (SS.ret SE.bl))))
end
end LK
/-! the law's own looking at rows -/
namespace LK
open PySem LW
open L2 (atI ixN)
open LR (FS Sm Nm Inv isRow dotR startF runF lensF)
theorem e_next : f_next_number = LR.f_next_number := rfl
theorem e_isrow : f_is_row_of = LR.f_is_row_of := rfl
theorem e_shows : f_shows_least_register = LR.f_shows_least_register := rfl
theorem e_least : f_least_register = LR.f_least_register := rfl
theorem e_only : f_is_only = LR.f_is_only := rfl
theorem gd : g__law_draw = gDraw := rfl
/-- the sum of taps times numbers, as the law writes it -/
theorem sum_comp {de : Den} {E : L → REnv} {taps row : List Int} {n v : Nat} (src : DenI) (hs : src (E .un) = some ((List.range taps.length).map fun i => T.int (i : Nat), none, E .un)) (hw : wipeE (E .un) [v] = E .un) (hg : ∀ x, gNameT v x (E .un) = some (E (.t x))) (hw2 : ∀ x, wipeE (E x) [v] = E .un) (hr : restE (E .un) (E .un) [v] = E .un)
    (hd : ∀ i, i < taps.length → de (E (.t (.int (i : Nat)))) = some (.t (.int (taps.getD i 0 * row.getD (n - 1 - i) 0)), E (.t (.int (i : Nat))))) (hz : taps.length ≤ 1000) :
    den1 gSum (compD src [v] (gNameT v) dYes de) (E .un) = some (.t (.int (BM.dot (BM.g taps) (BM.g row) taps.length n)), E .un) := by
  have hc := compD_eq (vs := [v]) (g := gNameT v) (dt := dYes) (de := de) (ho := none) hs (ys := (List.range taps.length).map fun i => T.int (taps.getD i 0 * row.getD (n - 1 - i) 0)) (ρ2 := E .un) (by
    show compL [v] (gNameT v) dYes de _ (wipeE (E .un) [v]) = _
    rw [hw]
    exact compL_m _ _ _ fun i hi => ⟨_, hg _, _, _, hd i (by simpa using hi), rfl, hw2 _⟩) (by rw [List.length_map, List.length_range]; exact Nat.le_trans hz (by decide))
  rw [show (none : Option Nat).toList ++ [v] = [v] from rfl, hr] at hc
  refine den1_eq hc ?_
  simp only [gSum, L.lview, asInts_f, Option.bind_some, Option.map_some, BM.sm_sum]
  rfl
theorem ix_row {row : List Int} {n i : Nat} (h : i + 1 ≤ n) (hn : n ≤ row.length) : atI (ii row) ((n : Int) - 1 - (i : Nat)) = some (.int (row.getD (n - 1 - i) 0)) := by
  have := atI_ints (ns := row) (i := (n : Int) - 1 - (i : Nat)) (by omega) (by omega)
  rw [this, show ((n : Int) - 1 - (i : Nat)).toNat = n - 1 - i by omega]
section
variable {p : Int} {row taps : List Int}
def EF (p : Int) (row taps : List Int) (n j : L) : REnv := E__law_follows (.t (.int p)) (.t (.lst (ii row))) (.t (.lst (ii taps))) n j
theorem dot_take {m : Nat} (hm : m ≤ row.length) (hl : taps.length ≤ m) : dotR taps (row.take m) = BM.dot (BM.g taps) (BM.g row) taps.length m := by
  unfold dotR
  rw [List.length_take, Nat.min_eq_left hm]
  refine LR.dot_congr (fun i hi => ?_) hl
  show (row.take m).getD i 0 = row.getD i 0
  rw [List.getD_eq_getElem?_getD, List.getD_eq_getElem?_getD, List.getElem?_take_of_lt hi]
theorem ev_follows (hp : 0 < p) (ht : Sm taps) (hz : taps.length ≤ 1000) (hr : row.length ≤ 1000) : f__law_follows [.int p, .lst (ii row), .lst (ii taps)] = some (.t (.bl (isRow p taps row))) := by
  let q : Nat → Bool := fun i => !decide (dotR taps (row.take (taps.length + i)) % p = row.getD (taps.length + i) 0)
  have hs : iRange2 (dCons (den1 gLen (gVar 2)) (dCons (den1 gLen (gVar 1)) dNil)) (EF p row taps .un .un) = some ((List.range (row.length - taps.length)).map fun i => T.int ((taps.length + i : Nat) : Int), none, EF p row taps .un .un) :=
    LR.iRange2_nat (a := taps.length) (b := row.length) (by
      refine dCons_eq (den1_eq (l1 := .t (.lst (ii taps))) (ρ1 := EF p row taps .un .un) rfl (gLen_l _ taps)) rfl (dCons_eq (den1_eq (l1 := .t (.lst (ii row))) (ρ1 := EF p row taps .un .un) rfl (gLen_l _ row)) rfl rfl)) (by omega) (by omega)
  have hb : ∀ i, i < row.length - taps.length → b__law_follows_1 (EF p row taps (.t (.int ((taps.length + i : Nat) : Int))) .un) = some (q i, EF p row taps (.t (.int ((taps.length + i : Nat) : Int))) .un) := fun i hi => by
    let n := taps.length + i
    let E : L → REnv := fun x => EF p row taps (.t (.int (n : Nat))) x
    have hsum := sum_comp (taps := taps) (row := row) (n := n) (v := 4) (E := E) (de := den2 gMul (den2 gIx (gVar 2) (gVar 4)) (den2 gIx (gVar 1) (den2 gSub (den2 gSub (gVar 3) (gC (.int 1))) (gVar 4)))) (iRange1 (dCons (den1 gLen (gVar 2)) dNil))
      (iRange1_eq (den1_eq (l1 := .t (.lst (ii taps))) (ρ1 := E .un) rfl (gLen_l _ taps)) (by omega)) rfl (fun _ => rfl) (fun _ => rfl) rfl (fun j hj => by
        have t1 : den2 gIx (gVar 2) (gVar 4) (E (.t (.int (j : Nat)))) = some (.t (.int (taps.getD j 0)), E (.t (.int (j : Nat)))) := den2_eq (l1 := .t (.lst (ii taps))) (l2 := .t (.int (j : Nat))) (ρ1 := E (.t (.int (j : Nat)))) (ρ2 := E (.t (.int (j : Nat)))) rfl rfl (gIx_l _ (ix_nat hj))
        have t2 : den2 gSub (den2 gSub (gVar 3) (gC (.int 1))) (gVar 4) (E (.t (.int (j : Nat)))) = some (.t (.int ((n : Int) - 1 - (j : Nat))), E (.t (.int (j : Nat)))) := rfl
        have t3 := den2_eq (g := gIx) (ρ := E (.t (.int (j : Nat)))) (d1 := gVar 1) (l1 := .t (.lst (ii row))) (ρ1 := E (.t (.int (j : Nat)))) rfl t2 (gIx_l _ (ix_row (row := row) (n := n) (i := j) (by omega) (by omega)))
        exact den2_eq t1 t3 (gMul_e _ (mulOk_small (by have := (ht.get j).1; omega) (by have := (ht.get j).2; omega)))) hz
    have h1 := den2_eq (g := gMod) (den1_eq (g := gInt) hsum (gInt_i _ _)) (d2 := gVar 0) (l2 := .t (.int p)) (ρ2 := E .un) rfl (gMod_e _ hp)
    have h2 : den2 gIx (gVar 1) (gVar 3) (E .un) = some (.t (.int (row.getD n 0)), E .un) := den2_eq (l1 := .t (.lst (ii row))) (l2 := .t (.int (n : Nat))) (ρ1 := E .un) (ρ2 := E .un) rfl rfl (gIx_l _ (ix_nat (show n < row.length by simp only [n]; omega)))
    have := dBl_eq (den2_eq (g := gB gNe) h1 h2 (gNe_i _ _ _))
    rw [← dot_take (taps := taps) (row := row) (m := n) (by simp only [n]; omega) (by simp only [n]; omega)] at this
    exact this
  obtain ⟨ρ', ⟨u, rfl⟩, hf⟩ := forL_find (g := gNameT 3) (db := l__law_follows_1) (t := fun i : Nat => T.int ((taps.length + i : Nat) : Int)) (fun ρ => ∃ u, ρ = EF p row taps u .un) q (fun _ => .t (.bl false)) (List.range (row.length - taps.length)) (fun i hi ρ hI => by
    obtain ⟨u, rfl⟩ := hI
    have hi : i < row.length - taps.length := by simpa using hi
    refine ⟨EF p row taps (.t (.int ((taps.length + i : Nat) : Int))) .un, EF p row taps (.t (.int ((taps.length + i : Nat) : Int))) .un, rfl, ?_, ⟨_, rfl⟩⟩
    have b := hb i hi
    cases hq : q i with
    | true => rw [hq] at b; exact .inl ⟨rfl, (dIfS_t (c := b__law_follows_1) (d := t__law_follows_1) (d' := dNx) b).trans rfl⟩
    | false => rw [hq] at b; exact .inr ⟨rfl, (dIfS_f (c := b__law_follows_1) (d := t__law_follows_1) (d' := dNx) b).trans rfl⟩) (EF p row taps .un .un) ⟨.un, rfl⟩
  have h3 : t__law_follows_3 (EF p row taps .un .un) = _ := dFor_eq (as := [3]) hs hf
  cases hq : (List.range (row.length - taps.length)).find? q with
  | some i =>
    rw [hq] at h3
    have hr : isRow p taps row = false := by
      unfold isRow
      rw [List.all_eq_false]
      have h5 := List.find?_some hq
      exact ⟨i, List.mem_of_find?_eq_some hq, by simpa [q] using h5⟩
    rw [hr]
    have hd : d__law_follows (EF p row taps .un .un) = some (.ret (.t (.bl false)), EF p row taps u .un) := dSeq_ret h3
    exact bodyP_t (n := 3) (m := 5) (d := d__law_follows) rfl hd
  | none =>
    rw [hq] at h3
    have hr : isRow p taps row = true := by
      unfold isRow
      rw [List.all_eq_true]
      intro i hi
      have := List.find?_eq_none.mp hq i hi
      simpa [q] using this
    rw [hr]
    have hd : d__law_follows (EF p row taps .un .un) = some (.ret (.t (.bl true)), EF p row taps u .un) := (dSeq_nx (d' := t__law_follows_4) h3).trans rfl
    exact bodyP_t (n := 3) (m := 5) (d := d__law_follows) rfl hd
end
/-! ### numbers of the field -/
theorem ev_numbers {p : Nat} {l : List Int} (h : Nm p l) (hz : l.length ≤ 1000) : f__law_are_numbers [.lst (ii l), .int (p : Nat)] = some (.t (.bl true)) := by
  let E (x : L) : REnv := E__law_are_numbers (.t (.lst (ii l))) (.t (.int (p : Nat))) x
  have s1 : t__law_are_numbers_2 (E .un) = some (.nx, E .un) := rfl
  have hc : c__law_are_numbers_1 (E .un) = some (.own (.lst []), E .un) := by
    unfold c__law_are_numbers_1
    have hf := compL_fm (vs := [2]) (g := gNameT 2) (dt := dOr (dNot (dTru (den1 (gIsi "int") (gVar 2)))) (dOr (dTru (den1 (gIsi "bool") (gVar 2))) (dOr (dBl (den2 (gB gLt) (gVar 2) (gC (.int 0)))) (dBl (den2 (gB gGe) (gVar 2) (gVar 1)))))) (de := gVar 2) (ρ := E .un) (fun x : Int => T.int x) (fun _ => false) (fun x => T.int x) l fun x hx => by
      obtain ⟨h0, h1⟩ := h x hx
      have d3 : dBl (den2 (gB gLt) (gVar 2) (gC (.int 0))) (E (.t (.int x))) = some (decide (x < 0), E (.t (.int x))) := dBl_eq (den2_eq (l1 := .t (.int x)) (l2 := .t (.int 0)) (ρ1 := E (.t (.int x))) (ρ2 := E (.t (.int x))) rfl rfl (gLt_i _ _ _))
      have d4 : dBl (den2 (gB gGe) (gVar 2) (gVar 1)) (E (.t (.int x))) = some (decide ((p : Int) ≤ x), E (.t (.int x))) := dBl_eq (den2_eq (l1 := .t (.int x)) (l2 := .t (.int (p : Nat))) (ρ1 := E (.t (.int x))) (ρ2 := E (.t (.int x))) rfl rfl (gGe_i _ _ _))
      rw [decide_eq_false (by omega)] at d3
      rw [decide_eq_false (by omega)] at d4
      exact ⟨E (.t (.int x)), E (.t (.int x)), rfl, dOr_ff rfl (dOr_ff rfl (dOr_ff d3 d4)), fun z => (Bool.false_ne_true z).elim, fun _ => rfl⟩
    rw [show l.filter (fun _ => false) = [] from List.filter_eq_nil_iff.mpr fun _ _ => Bool.false_ne_true] at hf
    exact compD_eq (src := iSeq (gVar 0)) (ρ := E .un) (ρ1 := E .un) (ho := none) (xs := l.map T.int) rfl hf (Nat.zero_le _)
  have s2 : t__law_are_numbers_3 (E .un) = some (.ret (.t (.bl true)), E .un) := dRet_eq (den2_eq (g := gB gEq) (den1_eq hc (gLen_n _ _)) (d2 := gC (.int 0)) (l2 := .t (.int 0)) (ρ2 := E .un) rfl (gEq_i _ _ _))
  have hd : d__law_are_numbers (E .un) = some (.ret (.t (.bl true)), E .un) := (dSeq_nx (d' := t__law_are_numbers_3) s1).trans s2
  exact bodyP_t (n := 2) (m := 3) (d := d__law_are_numbers) rfl hd
/-! ### rows of registers -/
def push (p : Int) (taps row : List Int) : List Int := row ++ [dotR taps row % p]
def grow (p : Int) (taps row : List Int) : Nat → List Int
  | 0 => row
  | n + 1 => push p taps (grow p taps row n)
theorem grow_len (p : Int) (taps row : List Int) : ∀ n, (grow p taps row n).length = row.length + n
  | 0 => rfl
  | n + 1 => by simp [grow, push, grow_len p taps row n]; omega
theorem ii_app (a : List Int) (x : Int) : ii a ++ [T.int x] = ii (a ++ [x]) := by simp [ii]
def rowR (p : Int) (taps begun : List Int) (m : Nat) : List Int := (grow p taps begun (m - begun.length)).take m
theorem ev_register_row {p : Int} {taps begun : List Int} {m : Nat} (hp : 0 < p) (ht : Sm taps) (hl : taps.length ≤ begun.length) (hz : taps.length ≤ 1000) (hb : begun.length < 900) (hm : m < 900) :
    f_register_row [.int p, .lst (ii taps), .lst (ii begun), .int (m : Nat)] = some (.own (.lst (ii (rowR p taps begun m)))) := by
  let E (r : L) : REnv := E_register_row (.t (.int p)) (.t (.lst (ii taps))) (.t (.lst (ii begun))) (.t (.int (m : Nat))) r
  let N := m - begun.length
  let R (i : Nat) : REnv := E (.own (.lst (ii (grow p taps begun i))))
  have s1 : t_register_row_1 (E .un) = some (.nx, R 0) := dSet_o (i := 4) (den1_eq (d := gVar 2) (l1 := .t (.lst (ii begun))) (ρ := E .un) (ρ1 := E .un) rfl rfl) (show 4 < 5 by decide)
  have cond : ∀ i, b_register_row_1 (R i) = some (decide (((grow p taps begun i).length : Int) < (m : Int)), R i) := fun i => by
    have l := gLen_r (R i) (k := 4) (t := ii (grow p taps begun i)) rfl
    rw [ii_len] at l
    exact dBl_eq (den2_eq (g := gB gLt) (den1_eq (d := gVar 4) (l1 := .ref 4) (ρ := R i) (ρ1 := R i) rfl l) (d2 := gVar 3) (l2 := .t (.int (m : Nat))) (ρ2 := R i) rfl (gLt_i _ _ _))
  obtain ⟨ρ', hw, rfl⟩ := whileL_steps (c := b_register_row_1) (db := l_register_row_1) (Pz := fun ρ => ρ = R N) (fun i ρ => ρ = R i) N (by
      rintro i hi ρ rfl
      have gl := grow_len p taps begun i
      have c := cond i
      rw [decide_eq_true (by omega)] at c
      refine ⟨R i, R (i + 1), c, ?_, rfl⟩
      have hb : dBor (dCallP 3 f_next_number (dCons (gVar 0) (dCons (gVar 1) (dCons (gVar 4) dNil)))) (R i) = some (.t (.int (dotR taps (grow p taps begun i) % p)), R i) := by
        refine dBor_eq (ρ' := frzE (R i)) ?_ (noL_int _)
        exact dCallP_eq (ts := [.int p, .lst (ii taps), .lst (ii (grow p taps begun i))]) rfl rfl (by rw [e_next]; exact LR.ev_next hp (by omega) ht hz) rfl
      have hm := meth_app (i := 4) (da := dCons (dBor (dCallP 3 f_next_number (dCons (gVar 0) (dCons (gVar 1) (dCons (gVar 4) dNil))))) dNil) (ρ := R i) (ρ1 := R i) rfl (dCons_eq hb rfl rfl) (xs := ii (grow p taps begun i)) rfl (by rw [ii_len]; exact Nat.lt_of_lt_of_le (show _ < 900 by omega) (by decide))
      rw [ii_app] at hm
      exact hm) (by
      rintro ρ rfl
      have gl := grow_len p taps begun N
      have c := cond N
      rw [decide_eq_false (by simp only [N] at gl ⊢; omega)] at c
      exact ⟨R N, c, rfl⟩) N 0 1000 (by omega) (by simp only [N]; omega) (R 0) rfl
  have s3 : t_register_row_3 (R 0) = some (.nx, R N) := hw
  have s4 : t_register_row_4 (R N) = some (.ret (.own (.lst (ii (rowR p taps begun m)))), R N) := by
    refine dRet_eq (dSl_eq (l := .ref 4) (ρ1 := R N) (ρ2 := R N) rfl rfl (dSome_eq (i := ((m : Nat) : Int)) rfl) ?_)
    rw [gSl_o (R N) (k := 4) (xs := ii (grow p taps begun N)) rfl, cut_hi]
    simp only [rowR, ii, List.map_take, N]
  have hd : d_register_row (E .un) = some (.ret (.own (.lst (ii (rowR p taps begun m)))), R N) := by
    unfold d_register_row
    rw [dSeq_nx s1, dSeq_nx s3]
    exact s4
  exact bodyP_own (n := 4) (m := 5) (d := d_register_row) rfl hd
theorem ev_law_row {p : Int} {taps begun : List Int} {m : Nat} (hp : 0 < p) (ht : Sm taps) (hl : taps.length ≤ begun.length) (hz : taps.length ≤ 1000) (hb : begun.length < 900) (hm : m < 900) :
    f__law_register_row [.int p, .lst (ii taps), .lst (ii begun), .int (m : Nat)] = some (.own (.lst (ii (rowR p taps begun m)))) := by
  let E (r n j : L) : REnv := E__law_register_row (.t (.int p)) (.t (.lst (ii taps))) (.t (.lst (ii begun))) (.t (.int (m : Nat))) r n j
  let N := m - begun.length
  let O (i : Nat) : L := .own (.lst (ii (grow p taps begun i)))
  have s1 : t__law_register_row_1 (E .un .un .un) = some (.nx, E (O 0) .un .un) := dSet_o (i := 4) (den1_eq (d := gVar 2) (l1 := .t (.lst (ii begun))) (ρ := E .un .un .un) (ρ1 := E .un .un .un) rfl rfl) (show 4 < 7 by decide)
  have hs : iRange2 (dCons (den1 gLen (gVar 2)) (dCons (gVar 3) dNil)) (E (O 0) .un .un) = some ((List.range N).map fun i => T.int ((begun.length + i : Nat) : Int), none, E (O 0) .un .un) :=
    LR.iRange2_nat (a := begun.length) (b := m) (by
      refine dCons_eq (den1_eq (l1 := .t (.lst (ii begun))) (ρ1 := E (O 0) .un .un) rfl (gLen_l _ begun)) rfl rfl) (by omega) (by omega)
  obtain ⟨ρ', hf, u, rfl⟩ := forL_ix (g := gNameT 5) (db := l__law_register_row_1) (t := fun i : Nat => T.int ((begun.length + i : Nat) : Int)) (fun i ρ => ∃ u, ρ = E (O i) u .un) (List.range N) 0 (fun i a ρ ha hI => by
    have hi : i < N := by
      have := (List.getElem?_eq_some_iff.mp ha).1
      simpa using this
    have : a = i := by
      rw [List.getElem?_range hi] at ha
      exact (Option.some.inj ha).symm
    subst this
    rw [Nat.zero_add] at hI ⊢
    obtain ⟨u, rfl⟩ := hI
    let n := begun.length + a
    let G := grow p taps begun a
    have gl : G.length = n := grow_len p taps begun a
    let F (x : L) : REnv := E (O a) (.t (.int (n : Nat))) x
    refine ⟨F .un, E (O (a + 1)) (.t (.int (n : Nat))) .un, rfl, ?_, ⟨_, rfl⟩⟩
    have hsum := sum_comp (taps := taps) (row := G) (n := n) (v := 6) (E := F) (de := den2 gMul (den2 gIx (gVar 1) (gVar 6)) (den2 gIx (gVar 4) (den2 gSub (den2 gSub (gVar 5) (gC (.int 1))) (gVar 6)))) (iRange1 (dCons (den1 gLen (gVar 1)) dNil))
      (iRange1_eq (den1_eq (l1 := .t (.lst (ii taps))) (ρ1 := F .un) rfl (gLen_l _ taps)) (by omega)) rfl (fun _ => rfl) (fun _ => rfl) rfl (fun j hj => by
        have t1 : den2 gIx (gVar 1) (gVar 6) (F (.t (.int (j : Nat)))) = some (.t (.int (taps.getD j 0)), F (.t (.int (j : Nat)))) := den2_eq (l1 := .t (.lst (ii taps))) (l2 := .t (.int (j : Nat))) (ρ1 := F (.t (.int (j : Nat)))) (ρ2 := F (.t (.int (j : Nat)))) rfl rfl (gIx_l _ (ix_nat hj))
        have t2 : den2 gSub (den2 gSub (gVar 5) (gC (.int 1))) (gVar 6) (F (.t (.int (j : Nat)))) = some (.t (.int ((n : Int) - 1 - (j : Nat))), F (.t (.int (j : Nat)))) := rfl
        have t3 := den2_eq (g := gIx) (ρ := F (.t (.int (j : Nat)))) (d1 := gVar 4) (l1 := .ref 4) (ρ1 := F (.t (.int (j : Nat)))) rfl t2 (gIx_o _ (k := 4) (xs := ii G) rfl (ix_row (row := G) (n := n) (i := j) (by omega) (by omega)))
        exact den2_eq t1 t3 (gMul_e _ (mulOk_small (by have := (ht.get j).1; omega) (by have := (ht.get j).2; omega)))) hz
    have h1 := den2_eq (g := gMod) (den1_eq (g := gInt) hsum (gInt_i _ _)) (d2 := gVar 0) (l2 := .t (.int p)) (ρ2 := F .un) rfl (gMod_e _ hp)
    have e : BM.dot (BM.g taps) (BM.g G) taps.length n = dotR taps G := by rw [← gl]; rfl
    rw [e] at h1
    have hm := meth_app (i := 4) (da := dCons (den2 gMod (den1 gInt (den1 gSum c__law_register_row_1)) (gVar 0)) dNil) (ρ := F .un) (ρ1 := F .un) rfl (dCons_eq h1 rfl rfl) (xs := ii G) rfl (by rw [ii_len]; exact Nat.lt_of_lt_of_le (show _ < 1800 by omega) (by decide))
    rw [ii_app] at hm
    exact hm) (E (O 0) .un .un) ⟨.un, rfl⟩
  rw [Nat.zero_add, List.length_range] at *
  have s3 : t__law_register_row_3 (E (O 0) .un .un) = some (.nx, E (O N) u .un) := dFor_eq (as := [5]) hs hf
  have s4 : t__law_register_row_4 (E (O N) u .un) = some (.ret (.own (.lst (ii (rowR p taps begun m)))), E (O N) u .un) := by
    refine dRet_eq (dSl_eq (l := .ref 4) (ρ1 := E (O N) u .un) (ρ2 := E (O N) u .un) rfl rfl (dSome_eq (i := ((m : Nat) : Int)) rfl) ?_)
    rw [gSl_o (E (O N) u .un) (k := 4) (xs := ii (grow p taps begun N)) rfl, cut_hi]
    simp only [rowR, ii, List.map_take, N]
  have hd : d__law_register_row (E .un .un .un) = some (.ret (.own (.lst (ii (rowR p taps begun m)))), E (O N) u .un) := by
    unfold d__law_register_row
    rw [dSeq_nx s1, dSeq_nx s3]
    exact s4
  exact bodyP_own (n := 4) (m := 7) (d := d__law_register_row) rfl hd
end LK
/-! whether no register of a size makes a row: the law's leaving out of unknowns -/
namespace LK
open PySem LW
open L2 (atI ixN)
open LR (FS Sm Nm Inv isRow dotR startF runF lensF)
def lsT (R : List (List Int)) : List T := R.map fun l => T.lst (ii l)
theorem lsT_len (R : List (List Int)) : (lsT R).length = R.length := by simp [lsT]
theorem lsT_app (a b : List (List Int)) : lsT (a ++ b) = lsT a ++ lsT b := by simp [lsT]
theorem lsT_set (R : List (List Int)) (i : Nat) (l : List Int) : (lsT R).set i (.lst (ii l)) = lsT (R.set i l) := by simp [lsT, List.map_set]
theorem lsT_at {R : List (List Int)} {i : Nat} (h : i < R.length) : atI (lsT R) ((i : Nat) : Int) = some (.lst (ii (R.getD i []))) := by
  refine L2.atI_nat ?_
  simp [lsT, h]
def line1 (row : List Int) (size n : Nat) : List Int := ((List.range size).map fun j => row.getD (n - 1 - j) 0) ++ [row.getD n 0]
def lines (row : List Int) (size : Nat) : List (List Int) := (List.range (row.length - size)).map fun i => line1 row size (size + i)
section
variable {p : Nat} {row : List Int} {size : Nat}
/-- the frame -/
def EN (p : Nat) (row : List Int) (size : Nat) (left n j at_ found i own k x often c line : L) : REnv := E__law_no_register (.t (.int (p : Nat))) (.t (.lst (ii row))) (.t (.int (size : Nat))) left n j at_ found i own k x often c line
def EL (p : Nat) (row : List Int) (size : Nat) (left n j at_ found i own k often : L) : REnv := EN p row size left n j at_ found i own k .un often .un .un
abbrev O (R : List (List Int)) : L := .own (.lst (lsT R))
abbrev Z (n : Nat) : L := .t (.int (n : Nat))
/-! ### the lines -/
theorem no_line {R : List (List Int)} {n : Nat} (h : n < row.length) (hs : size ≤ n) (hz : row.length ≤ 900) (hR : R.length < 900) :
    t__law_no_register_2 (EL p row size (O R) (Z n) .un .un .un .un .un .un .un) = some (.nx, EL p row size (O (R ++ [line1 row size n])) (Z n) .un .un .un .un .un .un .un) := by
  let F : REnv := EL p row size (O R) (Z n) .un .un .un .un .un .un .un
  have hc : c__law_no_register_1 F = some (.own (.lst (ii ((List.range size).map fun j => row.getD (n - 1 - j) 0))), F) := by
    unfold c__law_no_register_1
    have := compD_eq (src := iRange1 (dCons (gVar 2) dNil)) (vs := [5]) (g := gNameT 5) (dt := dYes) (de := den2 gIx (gVar 1) (den2 gSub (den2 gSub (gVar 4) (gC (.int 1))) (gVar 5))) (ρ := F) (ho := none) (iRange1_eq (d := gVar 2) (n := size) (ρ' := F) rfl (by omega))
      (compL_m _ (fun j => T.int (row.getD (n - 1 - j) 0)) _ fun j hj => by
        have hj : j < size := by simpa using hj
        let G : REnv := EL p row size (O R) (Z n) (Z j) .un .un .un .un .un .un
        have t2 : den2 gSub (den2 gSub (gVar 4) (gC (.int 1))) (gVar 5) G = some (.t (.int ((n : Int) - 1 - (j : Nat))), G) := rfl
        exact ⟨G, rfl, _, G, den2_eq (d1 := gVar 1) (l1 := .t (.lst (ii row))) (ρ1 := G) rfl t2 (gIx_l _ (ix_row (row := row) (n := n) (i := j) (by omega) (by omega))), rfl, rfl⟩) (by rw [List.length_map, List.length_range]; exact Nat.le_trans (show size ≤ 1000 by omega) (by decide))
    rw [ii, List.map_map]
    exact this
  have h1 : dLst (dCons (den2 gIx (gVar 1) (gVar 4)) dNil) F = some (.own (.lst [.int (row.getD n 0)]), F) :=
    dLst_eq (ts := [.int (row.getD n 0)]) (dCons_eq (den2_eq (l1 := .t (.lst (ii row))) (l2 := Z n) (ρ1 := F) (ρ2 := F) rfl rfl (gIx_l _ (ix_nat h))) rfl rfl) (show (1 : Nat) ≤ line by decide)
  have h2 := den2_eq hc h1 (gAdd_o F (by rw [ii_len, List.length_map, List.length_range]; exact Nat.le_trans (show _ ≤ 1000 by simp; omega) (by decide)))
  rw [ii_app] at h2
  have hm := meth_app (i := 3) (da := dCons (den2 gAdd c__law_no_register_1 (dLst (dCons (den2 gIx (gVar 1) (gVar 4)) dNil))) dNil) (ρ := F) (ρ1 := F) rfl (dCons_eq h2 rfl rfl) (xs := lsT R) rfl (by rw [lsT_len]; exact Nat.lt_of_lt_of_le hR (by decide))
  rw [show lsT R ++ [T.lst (ii (((List.range size).map fun j => row.getD (n - 1 - j) 0) ++ [row.getD n 0]))] = lsT (R ++ [line1 row size n]) by simp [lsT, line1]] at hm
  exact hm
theorem no_lines (hz : row.length ≤ 900) (hs : size ≤ 900) : ∃ n, t__law_no_register_3 (EL p row size (O []) .un .un .un .un .un .un .un .un) = some (.nx, EL p row size (O (lines row size)) n .un .un .un .un .un .un .un) := by
  obtain ⟨ρ', hf, n, rfl⟩ := forL_ix (g := gNameT 4) (db := l__law_no_register_1) (t := fun i : Nat => T.int ((size + i : Nat) : Int)) (fun i ρ => ∃ n, ρ = EL p row size (O ((lines row size).take i)) n .un .un .un .un .un .un .un) (List.range (row.length - size)) 0 (fun i a ρ ha hI => by
    have hi : i < row.length - size := by
      have := (List.getElem?_eq_some_iff.mp ha).1
      simpa using this
    have : a = i := by
      rw [List.getElem?_range hi] at ha
      exact (Option.some.inj ha).symm
    subst this
    rw [Nat.zero_add] at hI ⊢
    obtain ⟨n, rfl⟩ := hI
    have ht : (lines row size).take (a + 1) = (lines row size).take a ++ [line1 row size (size + a)] := by
      have hl : a < (lines row size).length := by simp [lines]; omega
      rw [List.take_succ_eq_append_getElem hl]
      simp [lines]
    rw [ht]
    exact ⟨_, _, rfl, no_line (by omega) (by omega) hz (by rw [List.length_take]; omega), ⟨_, rfl⟩⟩) (EL p row size (O []) .un .un .un .un .un .un .un .un) ⟨.un, rfl⟩
  rw [Nat.zero_add, List.length_range, show (lines row size).take (row.length - size) = lines row size from List.take_of_length_le (by simp [lines])] at hf
  have hsr : iRange2 (dCons (gVar 2) (dCons (den1 gLen (gVar 1)) dNil)) (EL p row size (O []) .un .un .un .un .un .un .un .un) = some ((List.range (row.length - size)).map fun i => T.int ((size + i : Nat) : Int), none, EL p row size (O []) .un .un .un .un .un .un .un .un) :=
    LR.iRange2_nat (a := size) (b := row.length) (dCons_eq (l := Z size) (ρ1 := EL p row size (O []) .un .un .un .un .un .un .un .un) rfl rfl (dCons_eq (den1_eq (l1 := .t (.lst (ii row))) (ρ1 := EL p row size (O []) .un .un .un .un .un .un .un .un) rfl (gLen_l _ row)) rfl rfl)) (by omega) (by omega)
  exact ⟨n, dFor_eq (as := [4]) hsr hf⟩
/-! ### a column -/
def hits (j : Nat) (R : List (List Int)) : List Nat := (List.range R.length).filter fun i => decide (BM.g (R.getD i []) j ≠ 0)
theorem hits_head (j : Nat) (R : List (List Int)) : (hits j R).head? = BM.fstNZ j R := by
  unfold hits BM.fstNZ
  rw [List.head?_filter]
  cases h : R.findIdx? fun l => decide (BM.g l j ≠ 0) with
  | none =>
    rw [List.find?_eq_none]
    intro i hi
    have hi : i < R.length := by simpa using hi
    have := (List.findIdx?_eq_none_iff.mp h) R[i] (List.getElem_mem hi)
    rw [List.getD_eq_getElem?_getD, List.getElem?_eq_getElem hi]
    simpa using this
  | some f =>
    obtain ⟨hf, h1, h2⟩ := List.findIdx?_eq_some_iff_getElem.mp h
    rw [List.find?_range_eq_some]
    refine ⟨?_, by simpa using hf, fun i hi => ?_⟩
    · rw [List.getD_eq_getElem?_getD, List.getElem?_eq_getElem hf]
      simpa using h1
    · have := h2 i hi
      rw [List.getD_eq_getElem?_getD, List.getElem?_eq_getElem (by omega)]
      simpa using this
theorem app_getD {a b : List (List Int)} (i : Nat) : (a ++ b).getD (a.length + i) [] = b.getD i [] := by
  simp [List.getD_eq_getElem?_getD, List.getElem?_append_right]
theorem left_at {Pre R : List (List Int)} {i : Nat} (h : i < R.length) : atI (lsT (Pre ++ R)) (((Pre.length + i : Nat)) : Int) = some (.lst (ii (R.getD i []))) := by
  rw [lsT_at (by simp; omega), app_getD]
theorem Ln_ix {l : List Int} {j c : Nat} (h : BM.Ln (p : Int) size j l) (hc : c ≤ size) : atI (ii l) ((c : Nat) : Int) = some (.int (BM.g l c)) := ix_nat (by rw [h.1]; omega)
theorem no_found {Pre R : List (List Int)} {j : Nat} {n f i o k w : L} (hj : j < size) (h : ∀ l ∈ R, BM.Ln (p : Int) size j l) (hz : Pre.length + R.length ≤ 900) (hi : i = .un ∨ ∃ x, i = .t x) :
    t__law_no_register_5 (EL p row size (O (Pre ++ R)) n (Z j) (Z Pre.length) f i o k w) = some (.nx, EL p row size (O (Pre ++ R)) n (Z j) (Z Pre.length) (.own (.lst ((hits j R).map fun i => T.int ((Pre.length + i : Nat) : Int)))) i o k w) := by
  let F (u : L) : REnv := EL p row size (O (Pre ++ R)) n (Z j) (Z Pre.length) f u o k w
  have hl : den1 gLen (gVar 3) (F i) = some (.t (.int ((Pre.length + R.length : Nat) : Int)), F i) := by
    have := den1_eq (d := gVar 3) (l1 := .ref 3) (ρ := F i) (ρ1 := F i) rfl (gLen_r (F i) (k := 3) (t := lsT (Pre ++ R)) rfl)
    rw [lsT_len, List.length_append] at this
    exact this
  have hs : iRange2 (dCons (gVar 6) (dCons (den1 gLen (gVar 3)) dNil)) (F i) = some ((List.range R.length).map fun i => T.int ((Pre.length + i : Nat) : Int), none, F i) := by
    have := LR.iRange2_nat (a := Pre.length) (b := Pre.length + R.length) (ρ := F i) (ρ' := F i) (d := dCons (gVar 6) (dCons (den1 gLen (gVar 3)) dNil)) (dCons_eq (l := Z Pre.length) (ρ1 := F i) rfl rfl (dCons_eq hl rfl rfl)) (by omega) (by omega)
    rwa [Nat.add_sub_cancel_left] at this
  have hc : c__law_no_register_2 (F i) = some (.own (.lst ((hits j R).map fun i => T.int ((Pre.length + i : Nat) : Int))), F i) := by
    unfold c__law_no_register_2
    refine compD_eq (vs := [8]) (g := gNameT 8) (dt := dBl (den2 (gB gNe) (den2 gIx (den2 gIx (gVar 3) (gVar 8)) (gVar 5)) (gC (.int 0)))) (de := gVar 8) (ρ2 := F .un) (ho := none) hs (compL_fm (vs := [8]) (g := gNameT 8) (dt := dBl (den2 (gB gNe) (den2 gIx (den2 gIx (gVar 3) (gVar 8)) (gVar 5)) (gC (.int 0)))) (de := gVar 8) (ρ := F .un) (fun i : Nat => T.int ((Pre.length + i : Nat) : Int)) (fun i => decide (BM.g (R.getD i []) j ≠ 0)) _ _ fun a ha => ?_) ?_
    · have ha : a < R.length := by simpa using ha
      have lm : R.getD a [] ∈ R := by
        rw [List.getD_eq_getElem?_getD, List.getElem?_eq_getElem ha]
        exact List.getElem_mem ha
      refine ⟨F (Z (Pre.length + a)), F (Z (Pre.length + a)), rfl, ?_, fun _ => ⟨_, F (Z (Pre.length + a)), rfl, rfl, rfl⟩, fun _ => rfl⟩
      have g1 : den2 gIx (gVar 3) (gVar 8) (F (Z (Pre.length + a))) = some (.t (.lst (ii (R.getD a []))), F (Z (Pre.length + a))) := den2_eq (l1 := .ref 3) (l2 := Z (Pre.length + a)) (ρ1 := F (Z (Pre.length + a))) (ρ2 := F (Z (Pre.length + a))) rfl rfl (gIx_o _ (k := 3) (xs := lsT (Pre ++ R)) rfl (left_at ha))
      have g2 := den2_eq g1 (d2 := gVar 5) (l2 := Z j) (ρ2 := F (Z (Pre.length + a))) rfl (gIx_l _ (Ln_ix (h _ lm) (by omega)))
      have := dBl_eq (den2_eq (g := gB gNe) g2 (d2 := gC (.int 0)) (l2 := .t (.int 0)) (ρ2 := F (Z (Pre.length + a))) rfl (gNe_i _ _ _))
      rw [this, decide_not]
    · rw [List.length_map]
      exact Nat.le_trans (List.length_filter_le _ _) (by rw [List.length_range]; exact Nat.le_trans (show R.length ≤ 900 by omega) (by decide))
  exact dSet_o (i := 7) hc (show 7 < 15 by decide)
end
end LK
/-! the pivot of a column -/
namespace LK
open PySem LW
open L2 (atI ixN)
open LR (FS Sm Nm Inv isRow dotR startF runF lensF)
/-! ### lists -/
def stp (h : List Int → List Int) (Q : List (List Int)) (i : Nat) : List (List Int) := if 0 < i then Q.set i (h (Q.getD i [])) else Q
theorem stp_len (h : List Int → List Int) (Q : List (List Int)) (i : Nat) : (stp h Q i).length = Q.length := by unfold stp; split <;> simp
theorem stp_get (h : List Int → List Int) (Q : List (List Int)) (i k : Nat) : (stp h Q i)[k]? = (Q[k]?).map fun l => if 0 < k ∧ k = i then h l else l := by
  unfold stp
  by_cases hi : 0 < i
  · rw [if_pos hi, List.getElem?_set]
    by_cases hk : i = k
    · subst hk
      rw [if_pos rfl]
      by_cases hl : i < Q.length
      · rw [if_pos hl, List.getElem?_eq_getElem hl, List.getD_eq_getElem?_getD, List.getElem?_eq_getElem hl]
        simp [hi]
      · rw [if_neg hl, List.getElem?_eq_none (by omega)]; rfl
    · rw [if_neg hk]
      cases Q[k]? with
      | none => rfl
      | some l => simp; intro _ z; exact absurd z.symm hk
  · rw [if_neg hi]
    cases Q[k]? with
    | none => rfl
    | some l => simp; intro z1 z2; omega
theorem fold_get (h : List Int → List Int) : ∀ (L : List Nat) (Q : List (List Int)), L.Nodup → ∀ k, (L.foldl (stp h) Q)[k]? = (Q[k]?).map fun l => if 0 < k ∧ k ∈ L then h l else l
  | [], Q, _, k => by
    show Q[k]? = _
    cases Q[k]? with
    | none => rfl
    | some l => simp
  | i :: L, Q, hn, k => by
    rw [List.foldl_cons, fold_get h L (stp h Q i) (List.nodup_cons.mp hn).2 k, stp_get]
    cases Q[k]? with
    | none => rfl
    | some l =>
      simp only [Option.map_some, List.mem_cons]
      by_cases hk : k = i
      · subst hk
        have := (List.nodup_cons.mp hn).1
        by_cases h0 : 0 < k <;> simp [this, h0]
      · by_cases h0 : 0 < k ∧ k ∈ L
        · simp [hk, h0]
        · simp [hk, h0]
section
variable {p : Nat} {row : List Int} {size : Nat}
theorem final_eq {R : List (List Int)} {own' : List Int} {j f : Nat} (hf : f < R.length) (hin : f ∈ hits j R) :
    (hits j R).foldl (stp (BM.red (p : Int) size j own')) ((R.set f (R.getD 0 [])).set 0 own') = own' :: ((R.set f (R.getD 0 [])).drop 1).map (BM.red (p : Int) size j own') := by
  refine List.ext_getElem? fun k => ?_
  have hnd : (hits j R).Nodup := List.Pairwise.filter _ List.nodup_range
  rw [fold_get _ _ _ hnd]
  have hpos : 0 < R.length := by omega
  cases k with
  | zero => simp [hpos]
  | succ k =>
    rw [List.getElem?_cons_succ, List.getElem?_map, List.getElem?_drop, show 1 + k = k + 1 by omega, List.getElem?_set_ne (by omega)]
    cases e : (R.set f (R.getD 0 []))[k + 1]? with
    | none => rfl
    | some l =>
      simp only [Option.map_some]
      by_cases hk : k + 1 ∈ hits j R
      · rw [if_pos ⟨by omega, hk⟩]
      · rw [if_neg fun z => hk z.2]
        have hne : ¬ f = k + 1 := fun z => hk (z ▸ hin)
        rw [List.getElem?_set_ne hne] at e
        have hkl : k + 1 < R.length := (List.getElem?_eq_some_iff.mp e).1
        have hz : BM.g l j = 0 := by
          refine Decidable.byContradiction fun z => hk ?_
          unfold hits
          rw [List.mem_filter]
          refine ⟨by simpa using hkl, ?_⟩
          rw [List.getD_eq_getElem?_getD, e]
          simpa using z
        unfold BM.red
        rw [if_pos hz]
/-! ### the number that makes the pivot 1 -/
def FX (p : Nat) (a : Int) : List Nat := (List.range p).filter fun x => decide (((x : Nat) : Int) * a % (p : Int) = 1)
theorem inv_eq (p : Nat) (a : Int) : BM.inv p a = ((FX p a).map Int.ofNat).headD 0 := by
  unfold BM.inv FX
  rw [List.filter_map]
  congr 2
theorem FX_cons {p : Nat} (hp : BM.isP p) {a : Int} (h0 : 0 < a) (h1 : a < p) : ∃ x xs, FX p a = x :: xs ∧ BM.inv p a = (x : Nat) := by
  have iv := (BM.inv_ok hp h0 h1).1
  cases e : FX p a with
  | nil =>
    rw [inv_eq, e] at iv
    simp at iv
  | cons x xs => exact ⟨x, xs, rfl, by rw [inv_eq, e]; rfl⟩
theorem no_k {Pre R : List (List Int)} {own : List Int} {j : Nat} {left n at_ f i k w : L} (hp : BM.isP p) (ho : BM.Ln (p : Int) size j own) (hj : j < size) (h0 : 0 < BM.g own j) (h1 : BM.g own j < p) :
    t__law_no_register_8 (EL p row size left n (Z j) at_ f i (.t (.lst (ii own))) k w) = some (.nx, EL p row size left n (Z j) at_ f i (.t (.lst (ii own))) (.t (.int (BM.inv p (BM.g own j)))) w) := by
  have pp := hp.pos
  let F (x : L) : REnv := EN p row size left n (Z j) at_ f i (.t (.lst (ii own))) k x w .un .un
  obtain ⟨x, xs, e1, e2⟩ := FX_cons hp h0 h1
  have hc : c__law_no_register_3 (F .un) = some (.own (.lst ((FX p (BM.g own j)).map fun x => T.int (x : Nat))), F .un) := by
    unfold c__law_no_register_3
    refine compD_eq (vs := [11]) (g := gNameT 11) (dt := dBl (den2 (gB gEq) (den2 gMod (den1 gInt (den2 gMul (gVar 11) (den2 gIx (gVar 9) (gVar 5)))) (gVar 0)) (gC (.int 1)))) (de := gVar 11) (ρ2 := F .un) (ho := none) (iRange1_eq (d := gVar 0) (n := p) (ρ' := F .un) rfl (by omega))
      (compL_fm (vs := [11]) (g := gNameT 11) (dt := dBl (den2 (gB gEq) (den2 gMod (den1 gInt (den2 gMul (gVar 11) (den2 gIx (gVar 9) (gVar 5)))) (gVar 0)) (gC (.int 1)))) (de := gVar 11) (ρ := F .un) (fun x : Nat => T.int (x : Nat)) (fun x => decide (((x : Nat) : Int) * BM.g own j % (p : Int) = 1)) (fun x => T.int (x : Nat)) (List.range p) fun x hx => ?_) ?_
    · have hx : x < p := by simpa using hx
      refine ⟨F (Z x), F (Z x), rfl, ?_, fun _ => ⟨_, F (Z x), rfl, rfl, rfl⟩, fun _ => rfl⟩
      have g1 : den2 gIx (gVar 9) (gVar 5) (F (Z x)) = some (.t (.int (BM.g own j)), F (Z x)) := den2_eq (l1 := .t (.lst (ii own))) (l2 := Z j) (ρ1 := F (Z x)) (ρ2 := F (Z x)) rfl rfl (gIx_l _ (Ln_ix ho (by omega)))
      have g2 := den2_eq (d1 := gVar 11) (l1 := Z x) (ρ := F (Z x)) (ρ1 := F (Z x)) rfl g1 (gMul_e _ (mulOk_small (by omega) (by omega)))
      exact dBl_eq (den2_eq (g := gB gEq) (den2_eq (g := gMod) (den1_eq (g := gInt) g2 (gInt_i _ _)) (d2 := gVar 0) (l2 := .t (.int (p : Nat))) (ρ2 := F (Z x)) rfl (gMod_e _ (by omega))) (d2 := gC (.int 1)) (l2 := .t (.int 1)) (ρ2 := F (Z x)) rfl (gEq_i _ _ _))
    · rw [List.length_map]
      exact Nat.le_trans (List.length_filter_le _ _) (by rw [List.length_range]; exact Nat.le_trans (show p ≤ 900 by omega) (by decide))
  have hx := den2_eq (g := gIx) hc (d2 := gC (.int 0)) (l2 := .t (.int 0)) (ρ2 := F .un) rfl (gIx_n _ (i := 0) (x := T.int (x : Nat)) (by
    rw [e1]
    exact L2.atI_nat (j := 0) rfl))
  rw [← e2] at hx
  exact dSet_t (i := 10) hx (show 10 < 15 by decide)
theorem no_scl {own : List Int} {k : Int} {left n jj at_ f i w : L} (hp : BM.isP p) (ho : ∀ x ∈ own, 0 ≤ x ∧ x < (p : Int)) (hz : own.length ≤ 1000) :
    t__law_no_register_9 (EL p row size left n jj at_ f i (.t (.lst (ii own))) (.t (.int k)) w) = some (.nx, EL p row size left n jj at_ f i (.own (.lst (ii (BM.scl p k own)))) (.t (.int k)) w) := by
  have pp := hp.pos
  let F (x : L) : REnv := EN p row size left n jj at_ f i (.t (.lst (ii own))) (.t (.int k)) x w .un .un
  have hc : c__law_no_register_4 (F .un) = some (.own (.lst (ii (BM.scl p k own))), F .un) := by
    unfold c__law_no_register_4
    have := compD_eq (src := iSeq (gVar 9)) (vs := [11]) (g := gNameT 11) (dt := dYes) (de := den2 gMod (den1 gInt (den2 gMul (gVar 11) (gVar 10))) (gVar 0)) (ρ := F .un) (ρ1 := F .un) (ho := none) (xs := own.map T.int) rfl
      (compL_m (fun x : Int => T.int x) (fun x => T.int (x * k % (p : Int))) own fun x hx => by
        have hb := ho x hx
        have g2 : den2 gMul (gVar 11) (gVar 10) (F (.t (.int x))) = some (.t (.int (x * k)), F (.t (.int x))) := den2_eq (l1 := .t (.int x)) (l2 := .t (.int k)) (ρ1 := F (.t (.int x))) (ρ2 := F (.t (.int x))) rfl rfl (gMul_e _ (mulOk_small (by omega) (by omega)))
        exact ⟨F (.t (.int x)), rfl, _, F (.t (.int x)), den2_eq (g := gMod) (den1_eq (g := gInt) g2 (gInt_i _ _)) (d2 := gVar 0) (l2 := .t (.int (p : Nat))) (ρ2 := F (.t (.int x))) rfl (gMod_e _ (by omega)), rfl, rfl⟩) (by rw [List.length_map]; exact Nat.le_trans hz (by decide))
    rw [BM.scl, ii, List.map_map]
    exact this
  exact dSet_o (i := 9) hc (show 9 < 15 by decide)
/-! ### one line under the pivot -/
theorem no_red {Pre Q : List (List Int)} {own : List Int} {j x : Nat} {n f k i w : L} (hp : BM.isP p) (hj : j < size) (hs : size ≤ 900) (ho : BM.Ln (p : Int) size j own) (hx : x < Q.length) (hQ : BM.Ln (p : Int) size j (Q.getD x [])) :
    ∃ w', l__law_no_register_2 (EL p row size (O (Pre ++ Q)) n (Z j) (Z Pre.length) f (Z (Pre.length + x)) (.t (.lst (ii own))) k w) = some (.nx, EL p row size (O (Pre ++ stp (BM.red (p : Int) size j own) Q x)) n (Z j) (Z Pre.length) f (Z (Pre.length + x)) (.t (.lst (ii own))) k w') := by
  have pp := hp.pos
  let l := Q.getD x []
  let F (u v : L) : REnv := EN p row size (O (Pre ++ Q)) n (Z j) (Z Pre.length) f (Z (Pre.length + x)) (.t (.lst (ii own))) k .un u v .un
  have b1 : dBl (den2 (gB gGt) (gVar 8) (gVar 6)) (F w .un) = some (decide (0 < x), F w .un) := by
    have := dBl_eq (den2_eq (g := gB gGt) (d1 := gVar 8) (d2 := gVar 6) (l1 := Z (Pre.length + x)) (l2 := Z Pre.length) (ρ := F w .un) (ρ1 := F w .un) (ρ2 := F w .un) rfl rfl (gGt_i _ _ _))
    rwa [show decide (((Pre.length : Nat) : Int) < ((Pre.length + x : Nat) : Int)) = decide (0 < x) from decide_eq_decide.mpr (by omega)] at this
  have gl : ∀ u v, den2 gIx (gVar 3) (gVar 8) (F u v) = some (.t (.lst (ii l)), F u v) := fun u v => den2_eq (l1 := .ref 3) (l2 := Z (Pre.length + x)) (ρ1 := F u v) (ρ2 := F u v) rfl rfl (gIx_o _ (k := 3) (xs := lsT (Pre ++ Q)) rfl (left_at hx))
  have glj : ∀ u v, den2 gIx (den2 gIx (gVar 3) (gVar 8)) (gVar 5) (F u v) = some (.t (.int (BM.g l j)), F u v) := fun u v => den2_eq (gl u v) (d2 := gVar 5) (l2 := Z j) (ρ2 := F u v) rfl (gIx_l _ (Ln_ix hQ (by omega)))
  by_cases h0 : 0 < x
  · have b2 : dBl (den2 (gB gNe) (den2 gIx (den2 gIx (gVar 3) (gVar 8)) (gVar 5)) (gC (.int 0))) (F w .un) = some (!decide (BM.g l j = 0), F w .un) := dBl_eq (den2_eq (g := gB gNe) (glj w .un) (d2 := gC (.int 0)) (l2 := .t (.int 0)) (ρ2 := F w .un) rfl (gNe_i _ _ _))
    have b : b__law_no_register_2 (F w .un) = some (!decide (BM.g l j = 0), F w .un) := by
      unfold b__law_no_register_2
      rw [decide_eq_true h0] at b1
      simp only [dAnd, b1, b2, Option.bind_some, if_true]
    by_cases hg : BM.g l j = 0
    · refine ⟨w, ?_⟩
      rw [decide_eq_true hg] at b
      have e : stp (BM.red (p : Int) size j own) Q x = Q := by
        unfold stp BM.red
        rw [if_pos h0, if_pos hg]
        refine List.ext_getElem? fun m => ?_
        rw [List.getElem?_set]
        by_cases hm : x = m
        · subst hm
          rw [if_pos rfl, if_pos hx, List.getD_eq_getElem?_getD, List.getElem?_eq_getElem hx]; rfl
        · rw [if_neg hm]
      rw [e]
      exact (dIfS_f (c := b__law_no_register_2) (d' := dNx) b).trans rfl
    · rw [decide_eq_false hg] at b
      let r : List Int := (List.range (size + 1)).map fun c => (BM.g l c - BM.g l j * BM.g own c) % (p : Int)
      have s1 : t__law_no_register_11 (F w .un) = some (.nx, F (.t (.int (BM.g l j))) .un) := dSet_t (i := 12) (glj w .un) (show 12 < 15 by decide)
      let W : L := .t (.int (BM.g l j))
      have hc : c__law_no_register_5 (F W .un) = some (.own (.lst (ii r)), F W .un) := by
        unfold c__law_no_register_5
        have a1 : den2 gAdd (gVar 2) (gC (.int 1)) (F W .un) = some (.t (.int ((size + 1 : Nat) : Int)), F W .un) := den2_eq (l1 := Z size) (l2 := .t (.int 1)) (ρ1 := F W .un) (ρ2 := F W .un) rfl rfl rfl
        have := compD_eq (vs := [13]) (g := gNameT 13) (dt := dYes) (de := den2 gMod (den1 gInt (den2 gSub (den2 gIx (den2 gIx (gVar 3) (gVar 8)) (gVar 13)) (den2 gMul (gVar 12) (den2 gIx (gVar 9) (gVar 13))))) (gVar 0)) (ρ := F W .un) (ho := none) (iRange1_eq a1 (by omega))
          (compL_m _ (fun c : Nat => T.int ((BM.g l c - BM.g l j * BM.g own c) % (p : Int))) _ fun c hc => by
            have hc : c ≤ size := by have : c < size + 1 := by simpa using hc
                                     omega
            let G := F W (Z c)
            have hb : 0 ≤ BM.g own c ∧ BM.g own c < p := LR.Nm.get (p := p) (l := own) (by omega) ho.2.1 c
            have g1 := den2_eq (g := gIx) (gl W (Z c)) (d2 := gVar 13) (l2 := Z c) (ρ2 := G) rfl (gIx_l _ (Ln_ix hQ hc))
            have g2 : den2 gIx (gVar 9) (gVar 13) G = some (.t (.int (BM.g own c)), G) := den2_eq (l1 := .t (.lst (ii own))) (l2 := Z c) (ρ1 := G) (ρ2 := G) rfl rfl (gIx_l _ (Ln_ix ho hc))
            have g3 := den2_eq (d1 := gVar 12) (l1 := W) (ρ := G) (ρ1 := G) rfl g2 (gMul_e _ (mulOk_smallr (by omega) (by omega)))
            have g4 := den2_eq (g := gSub) g1 g3 (l := .t (.int (BM.g l c - BM.g l j * BM.g own c))) rfl
            exact ⟨G, rfl, _, G, den2_eq (g := gMod) (den1_eq (g := gInt) g4 (gInt_i _ _)) (d2 := gVar 0) (l2 := .t (.int (p : Nat))) (ρ2 := G) rfl (gMod_e _ (by omega)), rfl, rfl⟩) (by rw [List.length_map, List.length_range]; exact Nat.le_trans (show size + 1 ≤ 1000 by omega) (by decide))
        rw [ii, List.map_map]
        exact this
      have s2 : t__law_no_register_12 (F W .un) = some (.nx, EL p row size (O (Pre ++ stp (BM.red (p : Int) size j own) Q x)) n (Z j) (Z Pre.length) f (Z (Pre.length + x)) (.t (.lst (ii own))) k W) := by
        have := dAsg_eq hc (x := .lst (ii r)) rfl (gSubT_e (j := 3) (k := Pre.length + x) (di := gVar 8) (ρ := F W .un) (xs := lsT (Pre ++ Q)) rfl rfl (by rw [lsT_len]; simp; omega))
        rw [lsT_set] at this
        have e : (Pre ++ Q).set (Pre.length + x) r = Pre ++ stp (BM.red (p : Int) size j own) Q x := by
          rw [List.set_append_right _ _ (by omega), Nat.add_sub_cancel_left]
          unfold stp BM.red
          rw [if_pos h0, if_neg hg]
        rw [e] at this
        exact this
      exact ⟨W, (dIfS_t (c := b__law_no_register_2) (d' := dNx) b).trans ((dSeq_nx s1).trans s2)⟩
  · refine ⟨w, ?_⟩
    have e : stp (BM.red (p : Int) size j own) Q x = Q := by unfold stp; rw [if_neg h0]
    rw [e]
    have b : b__law_no_register_2 (F w .un) = some (false, F w .un) := by
      unfold b__law_no_register_2
      rw [decide_eq_false h0] at b1
      simp only [dAnd, b1, Option.bind_some, Bool.false_eq_true, if_false]
    exact (dIfS_f (c := b__law_no_register_2) (d' := dNx) b).trans rfl
end
end LK
/-! no register of a size: the whole; the least lengths along -/
namespace LK
open PySem LW
open L2 (atI ixN)
open LR (FS Sm Nm Inv isRow dotR startF runF lensF)
section
variable {p : Nat} {row : List Int} {size : Nat}
theorem Ln_weak {l : List Int} {j : Nat} (h : BM.Ln (p : Int) size (j + 1) l) : BM.Ln (p : Int) size j l := ⟨h.1, h.2.1, fun c hc => h.2.2 c (by omega)⟩
theorem getD_mem {R : List (List Int)} {x : Nat} (h : x < R.length) : R.getD x [] ∈ R := by
  rw [List.getD_eq_getElem?_getD, List.getElem?_eq_getElem h]
  exact List.getElem_mem h
def ulike (i : L) : Prop := i = .un ∨ ∃ x, i = .t x
theorem no_col (hp : BM.isP p) {Pre R : List (List Int)} {j : Nat} {n f i o k w : L} (hj : j < size) (hs : size ≤ 900) (h : ∀ l ∈ R, BM.Ln (p : Int) size j l) (hz : Pre.length + R.length ≤ 900) (hi : ulike i) :
    ∃ Pre' f' i' o' k' w', l__law_no_register_3 (EL p row size (O (Pre ++ R)) n (Z j) (Z Pre.length) f i o k w) = some (.nx, EL p row size (O (Pre' ++ BM.col p size j R)) n (Z j) (Z Pre'.length) f' i' o' k' w') ∧ Pre'.length + (BM.col p size j R).length ≤ 900 ∧ ulike i' := by
  have pp := hp.pos
  have hf := no_found (p := p) (row := row) (n := n) (f := f) (i := i) (o := o) (k := k) (w := w) hj h hz hi
  let FL : List T := (hits j R).map fun i => T.int ((Pre.length + i : Nat) : Int)
  let F1 : REnv := EL p row size (O (Pre ++ R)) n (Z j) (Z Pre.length) (.own (.lst FL)) i o k w
  have b1 : b__law_no_register_1 F1 = some (decide (0 < (hits j R).length), F1) := by
    have l := gLen_r F1 (k := 7) (t := FL) rfl
    rw [show FL.length = (hits j R).length by simp [FL]] at l
    have := dBl_eq (den2_eq (g := gB gGt) (den1_eq (d := gVar 7) (l1 := .ref 7) (ρ := F1) (ρ1 := F1) rfl l) (d2 := gC (.int 0)) (l2 := .t (.int 0)) (ρ2 := F1) rfl (gGt_i _ _ _))
    rwa [show decide ((0 : Int) < ((hits j R).length : Nat)) = decide (0 < (hits j R).length) from decide_eq_decide.mpr (by omega)] at this
  have hd := hits_head j R
  unfold BM.col
  cases hh : hits j R with
  | nil =>
    rw [hh] at hd b1
    rw [← hd]
    refine ⟨Pre, .own (.lst FL), i, o, k, w, ?_, hz, hi⟩
    have s2 : t__law_no_register_16 F1 = some (.nx, F1) := (dIfS_f (c := b__law_no_register_1) (d' := dNx) b1).trans rfl
    exact (dSeq_nx (d' := t__law_no_register_16) hf).trans s2
  | cons f0 rest =>
    have hin : f0 ∈ hits j R := by rw [hh]; exact List.mem_cons_self
    have hmem := List.mem_filter.mp hin
    have hf0 : f0 < R.length := by simpa using hmem.1
    have hg : BM.g (R.getD f0 []) j ≠ 0 := by simpa using hmem.2
    rw [hh] at hd b1
    rw [← hd]
    let own := R.getD f0 []
    have lo : BM.Ln (p : Int) size j own := h _ (getD_mem hf0)
    have gb : 0 ≤ BM.g own j ∧ BM.g own j < p := LR.Nm.get (p := p) (l := own) (by omega) lo.2.1 j
    have g0 : 0 < BM.g own j := by have : BM.g own j ≠ 0 := hg; omega
    let kk := BM.inv p (BM.g own j)
    let own' := BM.scl (p : Int) kk own
    have lo' : BM.Ln (p : Int) size j own' := lo.scl (by omega)
    have o1 : BM.g own' j = 1 := by rw [BM.g_scl, Int.mul_comm]; exact (BM.inv_ok hp g0 gb.2).1
    let FO : L := .own (.lst FL)
    have at0 : atI FL 0 = some (.int ((Pre.length + f0 : Nat) : Int)) := L2.atI_nat (j := 0) (by simp [FL, hh])
    have x0 : ∀ ρ : REnv, ρ[7]? = some FO → gVar 7 ρ = some (.ref 7, ρ) → den2 gIx (gVar 7) (gC (.int 0)) ρ = some (Z (Pre.length + f0), ρ) := fun ρ e1 e2 => den2_eq (l1 := .ref 7) (l2 := .t (.int 0)) (ρ1 := ρ) (ρ2 := ρ) e2 rfl (gIx_o ρ (k := 7) (xs := FL) e1 at0)
    -- own = left[found[0]]
    have s6 : t__law_no_register_6 F1 = some (.nx, EL p row size (O (Pre ++ R)) n (Z j) (Z Pre.length) FO i (.t (.lst (ii own))) k w) :=
      dSet_t (i := 9) (den2_eq (d1 := gVar 3) (l1 := .ref 3) (ρ := F1) (ρ1 := F1) rfl (x0 F1 rfl rfl) (gIx_o F1 (k := 3) (xs := lsT (Pre ++ R)) rfl (left_at hf0))) (show 9 < 15 by decide)
    let F2 : REnv := EL p row size (O (Pre ++ R)) n (Z j) (Z Pre.length) FO i (.t (.lst (ii own))) k w
    let S := R.set f0 (R.getD 0 [])
    have hpos : 0 < R.length := by omega
    have s7 : t__law_no_register_7 F2 = some (.nx, EL p row size (O (Pre ++ S)) n (Z j) (Z Pre.length) FO i (.t (.lst (ii own))) k w) := by
      have la := left_at (Pre := Pre) (R := R) (i := 0) hpos
      have hx := den2_eq (g := gIx) (d1 := gVar 3) (d2 := gVar 6) (l1 := .ref 3) (l2 := Z Pre.length) (ρ := F2) (ρ1 := F2) (ρ2 := F2) rfl rfl (gIx_o F2 (k := 3) (xs := lsT (Pre ++ R)) rfl la)
      have := dAsg_eq hx (x := .lst (ii (R.getD 0 []))) rfl (gSubT_e (j := 3) (k := Pre.length + f0) (ρ := F2) (xs := lsT (Pre ++ R)) rfl (x0 F2 rfl rfl) (by rw [lsT_len]; simp; omega))
      rw [lsT_set, List.set_append_right _ _ (by omega), Nat.add_sub_cancel_left] at this
      exact this
    have s8 := no_k (Pre := []) (R := []) (p := p) (row := row) (left := O (Pre ++ S)) (n := n) (at_ := Z Pre.length) (f := FO) (i := i) (k := k) (w := w) hp lo hj g0 gb.2
    have s9 := no_scl (p := p) (row := row) (size := size) (left := O (Pre ++ S)) (n := n) (jj := Z j) (at_ := Z Pre.length) (f := FO) (i := i) (w := w) (k := kk) hp lo.2.1 (by rw [lo.1]; omega)
    let KK : L := .t (.int kk)
    let F3 : REnv := EL p row size (O (Pre ++ S)) n (Z j) (Z Pre.length) FO i (.own (.lst (ii own'))) KK w
    let OW : L := .t (.lst (ii own'))
    let Q0 := S.set 0 own'
    have s10 : t__law_no_register_10 F3 = some (.nx, EL p row size (O (Pre ++ Q0)) n (Z j) (Z Pre.length) FO i OW KK w) := by
      let F3' : REnv := EL p row size (O (Pre ++ S)) n (Z j) (Z Pre.length) FO i OW KK w
      have hx : dFrz 9 F3 = some (OW, F3') := rfl
      have := dAsg_eq hx (x := .lst (ii own')) rfl (gSubT_e (j := 3) (k := Pre.length) (di := gVar 6) (ρ := F3') (xs := lsT (Pre ++ S)) rfl rfl (by rw [lsT_len]; simp [S]; omega))
      rw [lsT_set, List.set_append_right _ _ (by omega), Nat.sub_self] at this
      exact this
    let F4 : REnv := EL p row size (O (Pre ++ Q0)) n (Z j) (Z Pre.length) FO i OW KK w
    have hQ0 : ∀ l ∈ Q0, BM.Ln (p : Int) size j l := fun l hl => by
      rcases List.mem_or_eq_of_mem_set hl with hl | rfl
      · rcases List.mem_or_eq_of_mem_set hl with hl | rfl
        · exact h l hl
        · exact h _ (getD_mem hpos)
      · exact lo'
    have lQ0 : Q0.length = R.length := by simp [Q0, S]
    obtain ⟨ρ', hfl, ⟨hql, _, i', w', hi', rfl⟩⟩ := forL_inv (g := gNameT 8) (db := l__law_no_register_2) (t := fun x : Nat => T.int ((Pre.length + x : Nat) : Int)) (fun (Q : List (List Int)) ρ => Q.length = R.length ∧ (∀ l ∈ Q, BM.Ln (p : Int) size j l) ∧ ∃ i w, ulike i ∧ ρ = EL p row size (O (Pre ++ Q)) n (Z j) (Z Pre.length) .un i OW KK w) (stp (BM.red (p : Int) size j own')) (hits j R) (fun x hx Q ρ hI => by
      obtain ⟨q1, q2, i2, w2, _, rfl⟩ := hI
      have hxR : x < R.length := by
        have := (List.mem_filter.mp hx).1
        simpa using this
      obtain ⟨w3, e3⟩ := no_red (p := p) (row := row) (Pre := Pre) (Q := Q) (own := own') (j := j) (x := x) (n := n) (f := .un) (k := KK) (i := .un) (w := w2) hp hj hs lo' (by omega) (q2 _ (getD_mem (by omega)))
      refine ⟨EL p row size (O (Pre ++ Q)) n (Z j) (Z Pre.length) .un (Z (Pre.length + x)) OW KK w2, _, rfl, e3, by rw [stp_len]; exact q1, fun l hl => ?_, Z (Pre.length + x), w3, .inr ⟨_, rfl⟩, rfl⟩
      unfold stp at hl
      split at hl
      · rcases List.mem_or_eq_of_mem_set hl with hl | rfl
        · exact q2 l hl
        · exact Ln_weak (BM.Ln.red (by omega) (by omega) (q2 _ (getD_mem (by omega))) lo' o1)
      · exact q2 l hl) Q0 (F4.set 7 .un) ⟨lQ0, hQ0, i, w, hi, rfl⟩
    have fe := final_eq (p := p) (size := size) (R := R) (own' := own') (j := j) (f := f0) hf0 hin
    rw [show (R.set f0 (R.getD 0 [])).set 0 own' = Q0 from rfl] at fe
    rw [fe] at hfl
    have s14 : t__law_no_register_14 F4 = some (.nx, EL p row size (O (Pre ++ own' :: (S.drop 1).map (BM.red (p : Int) size j own'))) n (Z j) (Z Pre.length) FO i' OW KK w') :=
      (dFor_h (as := [8, 12]) (src := iSeq (gVar 7)) (g := gNameT 8) (db := l__law_no_register_2) (ρ := F4) (ρ1 := F4) (xs := FL) (j := 7) rfl rfl hfl).trans rfl
    have e : Pre ++ own' :: (S.drop 1).map (BM.red (p : Int) size j own') = (Pre ++ [own']) ++ (S.drop 1).map (BM.red (p : Int) size j own') := by simp
    rw [e] at s14
    let F5 : REnv := EL p row size (O ((Pre ++ [own']) ++ (S.drop 1).map (BM.red (p : Int) size j own'))) n (Z j) (Z Pre.length) FO i' OW KK w'
    have s15 : t__law_no_register_15 F5 = some (.nx, EL p row size (O ((Pre ++ [own']) ++ (S.drop 1).map (BM.red (p : Int) size j own'))) n (Z j) (Z (Pre ++ [own']).length) FO i' OW KK w') := by
      have := dAug_eq (i := 6) (g := gIAdd) (d := gC (.int 1)) (ρ := F5) (ρ1 := F5) (x := .int (Pre.length : Nat)) (y := .int ((Pre.length : Int) + 1)) (l := .t (.int 1)) rfl rfl rfl (show 6 < 15 by decide)
      rw [show ((Pre.length : Int) + 1) = (((Pre ++ [own']).length : Nat) : Int) by simp] at this
      exact this
    refine ⟨Pre ++ [own'], FO, i', OW, KK, w', ?_, ?_, hi'⟩
    · unfold l__law_no_register_3
      rw [dSeq_nx hf]
      have hb : b__law_no_register_1 F1 = some (true, F1) := by rw [b1]; rfl
      refine (dIfS_t (c := b__law_no_register_1) (d' := dNx) hb).trans ?_
      rw [dSeq_nx s6, dSeq_nx s7, dSeq_nx s8, dSeq_nx s9, dSeq_nx s10, dSeq_nx s14]
      exact s15
    · show (Pre ++ [own']).length + ((S.drop 1).map _).length ≤ 900
      simp [S]
      omega
/-! ### the whole -/
theorem no_cols (hp : BM.isP p) (hs : size ≤ 900) {R : List (List Int)} {n : L} (h : ∀ l ∈ R, BM.Ln (p : Int) size 0 l) (hz : R.length ≤ 900) :
    ∃ Pre u f i o k w, t__law_no_register_17 (EL p row size (O R) n .un (.t (.int 0)) .un .un .un .un .un) = some (.nx, EL p row size (O (Pre ++ BM.cols p size size R)) n u (Z Pre.length) f i o k w) ∧ Pre.length + (BM.cols p size size R).length ≤ 900 ∧ ulike i := by
  obtain ⟨ρ', hf, Pre, u, f, i, o, k, w, rfl, hl, hi⟩ := forL_range (g := gNameT 5) (db := l__law_no_register_3) (fun j ρ => ∃ Pre u f i o k w, ρ = EL p row size (O (Pre ++ BM.cols p size j R)) n u (Z Pre.length) f i o k w ∧ Pre.length + (BM.cols p size j R).length ≤ 900 ∧ ulike i) size (fun j ρ hj hI => by
    obtain ⟨Pre, u, f, i, o, k, w, rfl, hl, hi⟩ := hI
    obtain ⟨Pre', f', i', o', k', w', e, hl', hi'⟩ := no_col (row := row) (n := n) (f := f) (i := i) (o := o) (k := k) (w := w) hp hj hs (BM.cols_ok hp h j (by omega)).1 hl hi
    exact ⟨_, _, rfl, e, Pre', _, f', i', o', k', w', rfl, hl', hi'⟩) (EL p row size (O R) n .un (.t (.int 0)) .un .un .un .un .un) ⟨[], .un, .un, .un, .un, .un, .un, rfl, by simpa [BM.cols] using hz, .inl rfl⟩
  exact ⟨Pre, u, f, i, o, k, w, dFor_eq (as := [5, 7, 9, 10, 9, 8, 12, 6]) (iRange1_eq (d := gVar 2) (n := size) rfl (by omega)) hf, hl, hi⟩
theorem lines_Ln (h : Nm p row) (hp : 0 < p) : ∀ l ∈ lines row size, BM.Ln (p : Int) size 0 l := fun l hl => by
  obtain ⟨i, _, rfl⟩ := List.mem_map.mp hl
  refine ⟨by simp [line1], fun x hx => ?_, fun c hc => (Nat.not_lt_zero _ hc).elim⟩
  rcases List.mem_append.mp hx with hx | hx
  · obtain ⟨j, _, rfl⟩ := List.mem_map.mp hx
    exact h.get hp _
  · rw [List.mem_singleton.mp hx]
    exact h.get hp _
theorem ev_no (hp : BM.isP p) (h : Nm p row) (hz : row.length ≤ 900) (hs : size ≤ 900) : f__law_no_register [.int (p : Nat), .lst (ii row), .int (size : Nat)] = some (.t (.bl (BM.noSol p size (lines row size)))) := by
  have pp := hp.pos
  let R0 := lines row size
  have hR : ∀ l ∈ R0, BM.Ln (p : Int) size 0 l := lines_Ln h (by omega)
  have lR : R0.length ≤ 900 := by simp [R0, lines]; omega
  let E0 : REnv := EL p row size .un .un .un .un .un .un .un .un .un
  have s1 : t__law_no_register_1 E0 = some (.nx, EL p row size (O []) .un .un .un .un .un .un .un .un) := dSet_o (i := 3) (dLst_eq (da := dNil) (ρ := E0) (ρ1 := E0) (ts := []) rfl (Nat.zero_le _)) (show 3 < 15 by decide)
  obtain ⟨n, s3⟩ := no_lines (p := p) (row := row) (size := size) hz hs
  have s4 : t__law_no_register_4 (EL p row size (O R0) n .un .un .un .un .un .un .un) = some (.nx, EL p row size (O R0) n .un (.t (.int 0)) .un .un .un .un .un) := dSet_t (i := 6) (d := gC (.int 0)) (x := .int 0) (ρ := EL p row size (O R0) n .un .un .un .un .un .un .un) (ρ' := EL p row size (O R0) n .un .un .un .un .un .un .un) rfl (show 6 < 15 by decide)
  obtain ⟨Pre, u, f, i, o, k, w, s17, hl, _⟩ := no_cols (p := p) (row := row) (n := n) hp hs hR lR
  let R := BM.cols p size size R0
  have hRL := (BM.cols_ok hp hR size (Nat.le_refl _)).1
  let F (v : L) : REnv := EN p row size (O (Pre ++ R)) n u (Z Pre.length) f i o k .un w .un v
  have hsl : dSl (gVar 3) (dSome (gVar 6)) dNone (F .un) = some (.own (.lst (lsT R)), F .un) := by
    refine dSl_eq (l := .ref 3) (ρ1 := F .un) (ρ2 := F .un) (lo := some ((Pre.length : Nat) : Int)) (hi := none) rfl (dSome_eq (i := ((Pre.length : Nat) : Int)) rfl) rfl ?_
    rw [gSl_o (F .un) (k := 3) (xs := lsT (Pre ++ R)) rfl, cut_lo, lsT_app, ← lsT_len Pre, List.drop_left]
  have hc : c__law_no_register_6 (F .un) = some (.own (.lst (lsT (R.filter fun l => decide (BM.g l size ≠ 0)))), F .un) := by
    unfold c__law_no_register_6
    have hsrc : iSeq (dSl (gVar 3) (dSome (gVar 6)) dNone) (F .un) = some (lsT R, none, F .un) := by
      simp only [iSeq, hsl, Option.bind_some]
      rfl
    refine compD_eq (vs := [14]) (g := gNameT 14) (dt := dBl (den2 (gB gNe) (den2 gIx (gVar 14) (gVar 2)) (gC (.int 0)))) (de := gVar 14) (ρ2 := F .un) (ho := none) hsrc
      (compL_fm (vs := [14]) (g := gNameT 14) (dt := dBl (den2 (gB gNe) (den2 gIx (gVar 14) (gVar 2)) (gC (.int 0)))) (de := gVar 14) (ρ := F .un) (fun l : List Int => T.lst (ii l)) (fun l => decide (BM.g l size ≠ 0)) (fun l => T.lst (ii l)) R fun l hl => ?_) ?_
    · refine ⟨F (.t (.lst (ii l))), F (.t (.lst (ii l))), rfl, ?_, fun _ => ⟨_, F (.t (.lst (ii l))), rfl, rfl, rfl⟩, fun _ => rfl⟩
      have g1 := den2_eq (g := gIx) (d1 := gVar 14) (d2 := gVar 2) (l1 := .t (.lst (ii l))) (l2 := Z size) (ρ := F (.t (.lst (ii l)))) (ρ1 := F (.t (.lst (ii l)))) (ρ2 := F (.t (.lst (ii l)))) rfl rfl (gIx_l _ (Ln_ix (hRL l hl) (Nat.le_refl _)))
      have := dBl_eq (den2_eq (g := gB gNe) g1 (d2 := gC (.int 0)) (l2 := .t (.int 0)) (ρ2 := F (.t (.lst (ii l)))) rfl (gNe_i _ _ _))
      rw [this, decide_not]
    · rw [lsT_len]
      exact Nat.le_trans (List.length_filter_le _ _) (Nat.le_trans (show R.length ≤ 900 by have : Pre.length + R.length ≤ 900 := hl; omega) (by decide))
  have s18 : t__law_no_register_18 (F .un) = some (.ret (.t (.bl (BM.noSol p size R0))), F .un) := by
    have := den2_eq (g := gB gGt) (den1_eq hc (gLen_n _ _)) (d2 := gC (.int 0)) (l2 := .t (.int 0)) (ρ2 := F .un) rfl (gGt_i _ _ _)
    rw [lsT_len, show decide ((0 : Int) < ((R.filter fun l => decide (BM.g l size ≠ 0)).length : Nat)) = BM.noSol p size R0 from by
      unfold BM.noSol
      rw [Bool.eq_iff_iff, decide_eq_true_iff, List.any_eq_true]
      constructor
      · intro z
        have hpos : 0 < (R.filter fun l => decide (BM.g l size ≠ 0)).length := by omega
        have := List.getElem_mem hpos
        exact ⟨_, (List.mem_filter.mp this).1, (List.mem_filter.mp this).2⟩
      · rintro ⟨l, hl, hg⟩
        have := List.length_pos_of_mem (List.mem_filter.mpr ⟨hl, hg⟩ : l ∈ R.filter fun l => decide (BM.g l size ≠ 0))
        omega] at this
    exact dRet_eq this
  have hd : d__law_no_register E0 = some (.ret (.t (.bl (BM.noSol p size R0))), F .un) := by
    unfold d__law_no_register
    rw [dSeq_nx s1, dSeq_nx s3, dSeq_nx s4, dSeq_nx s17]
    exact s18
  exact bodyP_t (n := 3) (m := 15) (d := d__law_no_register) rfl hd
/-! ### what it says -/
theorem ev_line {x : Nat → Int} {n : Nat} : BM.ev size (line1 row size n) x = BM.dot x (BM.g row) size n - BM.g row n := by
  unfold BM.ev
  congr 1
  · refine BM.sm_congr fun c hc => ?_
    rw [Int.mul_comm]
    congr 1
    show (line1 row size n).getD c 0 = _
    unfold line1
    rw [getD_app1 (by simpa using hc), getD_range hc]
  · show (line1 row size n).getD size 0 = _
    unfold line1
    rw [getD_app2 (by simp)]
    simp
theorem noSol_row (hp : BM.isP p) (h : Nm p row) : BM.noSol p size (lines row size) = true ↔ ¬ ∃ c, BM.Fol p (BM.g row) c size row.length := by
  have pp := hp.pos
  rw [BM.noSol_iff hp (lines_Ln h (by omega))]
  refine not_congr ⟨fun ⟨x, hx⟩ => ⟨x, fun m h1 h2 => ?_⟩, fun ⟨c, hc⟩ => ⟨c, fun l hl => ?_⟩⟩
  · have := hx (line1 row size m) (List.mem_map.mpr ⟨m - size, by simp; omega, by rw [show size + (m - size) = m by omega]⟩)
    rwa [ev_line] at this
  · obtain ⟨i, hi, rfl⟩ := List.mem_map.mp hl
    have hi : i < row.length - size := by simpa using hi
    rw [ev_line]
    exact hc (size + i) (by omega) (by omega)
end
end LK
/-! the least lengths along; papers as the law looks at them; sameness -/
namespace LK
open PySem LW
open L2 (atI ixN)
open LR (FS Sm Nm Inv isRow dotR startF runF lensF)
theorem dSeq_brk {d d' : DenS} {ρ ρ' : REnv} (h : d ρ = some (.brk, ρ')) : dSeq d d' ρ = some (.brk, ρ') := by simp [dSeq, h]
section
variable {p : Nat} {row : List Int}
/-- the lengths along a row: what lensF tells -/
structure Lens (p : Nat) (row r : List Int) : Prop where
  len : r.length = row.length
  at_ : ∀ i, i < row.length → ∃ si, Inv p si ∧ si.row = row.take (i + 1) ∧ r.getD i 0 = (si.taps.length : Int)
def lenN (r : List Int) (i : Nat) : Nat := (r.getD i 0).toNat
def prevN (r : List Int) : Nat → Nat
  | 0 => 0
  | i + 1 => lenN r i
theorem take_g {i m : Nat} (h : m < i) : BM.g (row.take i) m = BM.g row m := by
  show (row.take i).getD m 0 = row.getD m 0
  rw [List.getD_eq_getElem?_getD, List.getD_eq_getElem?_getD, List.getElem?_take_of_lt h]
theorem Lens.up {r : List Int} (h : Lens p row r) {i : Nat} (hi : i < row.length) : prevN r i ≤ lenN r i ∧ lenN r i ≤ i + 1 := by
  obtain ⟨si, I, e, g⟩ := h.at_ i hi
  have hl : si.row.length = i + 1 := by rw [e, List.length_take]; omega
  have e1 : lenN r i = si.taps.length := by unfold lenN; rw [g]; rfl
  refine ⟨?_, by rw [e1, ← hl]; exact I.le⟩
  cases i with
  | zero => exact Nat.zero_le _
  | succ i =>
    obtain ⟨sj, J, e2, g2⟩ := h.at_ i (by omega)
    have hl2 : sj.row.length = i + 1 := by rw [e2, List.length_take]; omega
    have e3 : prevN r (i + 1) = sj.taps.length := by show lenN r i = _; unfold lenN; rw [g2]; rfl
    rw [e1, e3]
    refine J.min (c := BM.g si.taps) ?_
    have f := I.fo.mono (n' := i + 1) (by omega)
    rw [hl2]
    refine LR.Fol_congr (fun m hm => ?_) f
    rw [e, e2, take_g (by omega), take_g (by omega)]
theorem Lens.no {r : List Int} (hp : BM.isP p) (hN : Nm p row) (h : Lens p row r) {i s : Nat} (hi : i < row.length) (hs : s ≤ lenN r i) : BM.noSol p s (lines (row.take (i + 1)) s) = decide (s < lenN r i) := by
  obtain ⟨si, I, e, g⟩ := h.at_ i hi
  have e1 : lenN r i = si.taps.length := by unfold lenN; rw [g]; rfl
  have hn : Nm p (row.take (i + 1)) := fun x hx => hN x (List.mem_of_mem_take hx)
  rw [Bool.eq_iff_iff, noSol_row hp hn, decide_eq_true_iff, e1, ← e]
  constructor
  · intro hno
    refine Decidable.byContradiction fun hc => hno ⟨BM.g si.taps, ?_⟩
    rw [show s = si.taps.length by omega]
    exact I.fo
  · rintro hlt ⟨c, hc⟩
    have := I.min hc
    omega
theorem ev_lengths {r : List Int} (hp : BM.isP p) (hN : Nm p row) (h : Lens p row r) (hz : row.length ≤ 100) : f__law_lengths [.int (p : Nat), .lst (ii row)] = some (.own (.lst (ii r))) := by
  let E (f s n t : L) : REnv := E__law_lengths (.t (.int (p : Nat))) (.t (.lst (ii row))) f s n t
  have s1 : t__law_lengths_1 (E .un .un .un .un) = some (.nx, E (.own (.lst [])) .un .un .un) := dSet_o (i := 2) (dLst_eq (da := dNil) (ρ := E .un .un .un .un) (ρ1 := E .un .un .un .un) (ts := []) rfl (Nat.zero_le _)) (show 2 < 6 by decide)
  have s2 : t__law_lengths_2 (E (.own (.lst [])) .un .un .un) = some (.nx, E (.own (.lst [])) (.t (.int 0)) .un .un) := dSet_t (i := 3) (d := gC (.int 0)) (x := .int 0) (ρ := E (.own (.lst [])) .un .un .un) (ρ' := E (.own (.lst [])) .un .un .un) rfl (show 3 < 6 by decide)
  obtain ⟨ρ', hf, nn, st, rfl⟩ := forL_range (g := gNameT 4) (db := l__law_lengths_2) (fun i ρ => ∃ nn st, ρ = E (.own (.lst (ii (r.take i)))) (Z (prevN r i)) nn st) row.length (fun i ρ hi hI => by
    obtain ⟨nn, st, rfl⟩ := hI
    obtain ⟨u1, u2⟩ := h.up hi
    let K := lenN r i - prevN r i + 1
    let FO : L := .own (.lst (ii (r.take i)))
    let G (s t : L) : REnv := E FO s (Z i) t
    have cond : ∀ s t, s ≤ lenN r i → b__law_lengths_1 (G (Z s) t) = some (!decide (s < lenN r i), G (Z s) t) := fun s t hs => by
      have a1 : den2 gAdd (gVar 4) (gC (.int 1)) (G (Z s) t) = some (.t (.int ((i + 1 : Nat) : Int)), G (Z s) t) := den2_eq (l1 := Z i) (l2 := .t (.int 1)) (ρ1 := G (Z s) t) (ρ2 := G (Z s) t) rfl rfl rfl
      have hsl : dSl (gVar 1) dNone (dSome (den2 gAdd (gVar 4) (gC (.int 1)))) (G (Z s) t) = some (.own (.lst (ii (row.take (i + 1)))), G (Z s) t) := by
        refine dSl_eq (l := .t (.lst (ii row))) (ρ1 := G (Z s) t) (ρ2 := G (Z s) t) rfl rfl (dSome_eq (i := ((i + 1 : Nat) : Int)) a1) ?_
        rw [gSl_l, cut_hi]
        simp only [ii, List.map_take]
      have := ev_no (size := s) hp (row := row.take (i + 1)) (fun x hx => hN x (List.mem_of_mem_take hx)) (by rw [List.length_take]; omega) (by omega)
      rw [h.no hp hN hi hs] at this
      exact dNot_t (dTru_b (dCallP_eq (ts := [.int (p : Nat), .lst (ii (row.take (i + 1))), .int (s : Nat)]) (dCons_eq (l := .t (.int (p : Nat))) (ρ1 := G (Z s) t) rfl rfl (dCons_eq hsl rfl (dCons_eq (l := Z s) (ρ1 := G (Z s) t) rfl rfl rfl))) rfl this rfl))
    obtain ⟨ρ2, hin, t2, rfl⟩ := forL_brk (g := gNameT 5) (db := l__law_lengths_1) (t := fun a : Nat => T.int (a : Nat)) (fun j ρ => ∃ t, ρ = G (Z (prevN r i + min j (K - 1))) t) K (fun j a ρ hj hI => by
      obtain ⟨t, rfl⟩ := hI
      have hm : min j (K - 1) = j := by omega
      rw [hm]
      have hs : prevN r i + j ≤ lenN r i := by simp only [K] at hj; omega
      have c := cond (prevN r i + j) (.t (.int (a : Nat))) hs
      by_cases hK : j + 1 = K
      · rw [if_pos hK]
        have e : prevN r i + j = lenN r i := by simp only [K] at hK; omega
        rw [show (!decide (prevN r i + j < lenN r i)) = true from by rw [decide_eq_false (by omega)]; rfl] at c
        refine ⟨G (Z (prevN r i + j)) (.t (.int (a : Nat))), G (Z (prevN r i + j)) (.t (.int (a : Nat))), rfl, ?_, .t (.int (a : Nat)), by rw [show min (j + 1) (K - 1) = j by omega]⟩
        exact dSeq_brk ((dIfS_t (c := b__law_lengths_1) (d := dBrk) (d' := dNx) c).trans rfl)
      · rw [if_neg hK]
        rw [show (!decide (prevN r i + j < lenN r i)) = false from by rw [decide_eq_true (by simp only [K] at hj hK; omega)]; rfl] at c
        refine ⟨G (Z (prevN r i + j)) (.t (.int (a : Nat))), G (Z (prevN r i + (j + 1))) (.t (.int (a : Nat))), rfl, ?_, .t (.int (a : Nat)), by rw [show min (j + 1) (K - 1) = j + 1 by omega]⟩
        have s : t__law_lengths_3 (G (Z (prevN r i + j)) (.t (.int (a : Nat)))) = some (.nx, G (Z (prevN r i + j)) (.t (.int (a : Nat)))) := (dIfS_f (c := b__law_lengths_1) (d := dBrk) (d' := dNx) c).trans rfl
        have := dAug_eq (i := 3) (g := gIAdd) (d := gC (.int 1)) (ρ := G (Z (prevN r i + j)) (.t (.int (a : Nat)))) (ρ1 := G (Z (prevN r i + j)) (.t (.int (a : Nat)))) (x := .int ((prevN r i + j : Nat) : Int)) (y := .int (((prevN r i + j : Nat) : Int) + 1)) (l := .t (.int 1)) rfl rfl rfl (show 3 < 6 by decide)
        rw [show (((prevN r i + j : Nat) : Int) + 1) = ((prevN r i + (j + 1) : Nat) : Int) by omega] at this
        exact (dSeq_nx s).trans this) (List.range (row.length + 1)) 0 (by simp only [K]; omega) (by simp only [K, List.length_range]; omega) (G (Z (prevN r i)) st) ⟨st, by simp⟩
    have hsrc : iRange1 (dCons (den2 gAdd (den1 gLen (gVar 1)) (gC (.int 1))) dNil) (G (Z (prevN r i)) st) = some ((List.range (row.length + 1)).map fun a => T.int (a : Nat), none, G (Z (prevN r i)) st) :=
      iRange1_eq (n := row.length + 1) (den2_eq (g := gAdd) (den1_eq (d := gVar 1) (l1 := .t (.lst (ii row))) (ρ := G (Z (prevN r i)) st) (ρ1 := G (Z (prevN r i)) st) rfl (gLen_l _ row)) (d2 := gC (.int 1)) (l2 := .t (.int 1)) (ρ2 := G (Z (prevN r i)) st) rfl rfl) (by omega)
    have s5 : t__law_lengths_5 (G (Z (prevN r i)) st) = some (.nx, G (Z (prevN r i + min K (K - 1))) t2) := dFor_eq (as := [5, 3]) hsrc hin
    have eK : prevN r i + min K (K - 1) = lenN r i := by simp only [K]; omega
    rw [eK] at s5
    have s6 : t__law_lengths_6 (G (Z (lenN r i)) t2) = some (.nx, E (.own (.lst (ii (r.take (i + 1))))) (Z (lenN r i)) (Z i) t2) := by
      have hm := meth_app (i := 2) (da := dCons (gVar 3) dNil) (ρ := G (Z (lenN r i)) t2) (ρ1 := G (Z (lenN r i)) t2) (x := .int (lenN r i : Nat)) rfl rfl (xs := ii (r.take i)) rfl (by rw [ii_len, List.length_take]; exact Nat.lt_of_lt_of_le (show _ < 900 by omega) (by decide))
      rw [ii_app] at hm
      have hr : i < r.length := by rw [h.len]; exact hi
      have e : r.take i ++ [((lenN r i : Nat) : Int)] = r.take (i + 1) := by
        rw [List.take_succ_eq_append_getElem hr]
        obtain ⟨si, _, _, g⟩ := h.at_ i hi
        have : ((lenN r i : Nat) : Int) = r[i] := by
          unfold lenN
          rw [g, Int.toNat_natCast, ← g, List.getD_eq_getElem?_getD, List.getElem?_eq_getElem hr]; rfl
        rw [this]
      rw [e] at hm
      exact hm
    exact ⟨G (Z (prevN r i)) st, _, rfl, (dSeq_nx s5).trans s6, Z i, t2, rfl⟩) (E (.own (.lst [])) (.t (.int 0)) .un .un) ⟨.un, .un, rfl⟩
  have s7 : t__law_lengths_7 (E (.own (.lst [])) (.t (.int 0)) .un .un) = some (.nx, E (.own (.lst (ii (r.take row.length)))) (Z (prevN r row.length)) nn st) :=
    dFor_eq (as := [4, 5, 3]) (iRange1_eq (n := row.length) (den1_eq (d := gVar 1) (l1 := .t (.lst (ii row))) (ρ := E (.own (.lst [])) (.t (.int 0)) .un .un) (ρ1 := E (.own (.lst [])) (.t (.int 0)) .un .un) rfl (gLen_l _ row)) (by omega)) hf
  rw [show r.take row.length = r from List.take_of_length_le (by rw [h.len]; exact Nat.le_refl _)] at s7
  have hd : d__law_lengths (E .un .un .un .un) = some (.ret (.ref 2), E (.own (.lst (ii r))) (Z (prevN r row.length)) nn st) := by
    unfold d__law_lengths
    rw [dSeq_nx s1, dSeq_nx s2, dSeq_nx s7]
    rfl
  exact bodyP_ref (n := 2) (m := 6) (d := d__law_lengths) (i := 2) rfl hd rfl
end
/-! ### sameness -/
theorem same_int (fr : List T → Option L) (i : Int) : bodyP 2 3 (d__law_same fr) [.int i, .int i] = some (.t (.bl true)) := by
  let E := E__law_same (.t (.int i)) (.t (.int i)) .un
  have s1 : t__law_same_9 fr E = some (.nx, E) := rfl
  have s2 : t__law_same_11 fr E = some (.nx, E) := rfl
  have e : den2 (gB gEq) (gVar 0) (gVar 1) E = some (.t (.bl (decide (i = i))), E) := den2_eq (l1 := .t (.int i)) (l2 := .t (.int i)) (ρ1 := E) (ρ2 := E) rfl rfl (gEq_i E i i)
  rw [decide_eq_true rfl] at e
  have s3 : t__law_same_12 fr E = some (.ret (.t (.bl true)), E) := dRet_eq (LR.dAndV_t (ρ1 := E) rfl (LR.dAndV_t (ρ1 := E) rfl e))
  have hd : d__law_same fr E = some (.ret (.t (.bl true)), E) := by
    unfold d__law_same
    rw [dSeq_nx s1, dSeq_nx s2]
    exact s3
  exact bodyP_t (n := 2) (m := 3) (d := d__law_same fr) rfl hd
theorem same_bl (b : Bool) : f__law_same 5 [.bl b, .bl b] = some (.t (.bl true)) := by cases b <;> rfl
theorem same_ii {l : List Int} (hz : l.length ≤ 1000) : f__law_same 5 [.lst (ii l), .lst (ii l)] = some (.t (.bl true)) := by
  let fr := f__law_same 4
  let E (k : L) := E__law_same (.t (.lst (ii l))) (.t (.lst (ii l))) k
  have n2 : t__law_same_2 fr (E .un) = some (.nx, E .un) := rfl
  have n4 : t__law_same_4 fr (E .un) = some (.nx, E .un) := by
    have b := dBl_eq (den2_eq (g := gB gNe) (den1_eq (d := gVar 0) (l1 := .t (.lst (ii l))) (ρ := E .un) (ρ1 := E .un) rfl (gLen_l _ l)) (den1_eq (d := gVar 1) (l1 := .t (.lst (ii l))) (ρ := E .un) (ρ1 := E .un) rfl (gLen_l _ l)) (gNe_i _ _ _))
    rw [decide_eq_true rfl] at b
    exact (dIfS_f (c := b__law_same_3 fr) (d := t__law_same_3 fr) (d' := dNx) b).trans rfl
  obtain ⟨ρ', hf, k, rfl⟩ := forL_range (g := gNameT 2) (db := l__law_same_1 fr) (fun i ρ => ∃ k, ρ = E k) l.length (fun i ρ hi hI => by
    obtain ⟨k, rfl⟩ := hI
    let R := E (.t (.int (i : Nat)))
    have g0 : den2 gIx (gVar 0) (gVar 2) R = some (.t (.int (l.getD i 0)), R) := den2_eq (l1 := .t (.lst (ii l))) (l2 := .t (.int (i : Nat))) (ρ1 := R) (ρ2 := R) rfl rfl (gIx_l _ (ix_nat hi))
    have g1 : den2 gIx (gVar 1) (gVar 2) R = some (.t (.int (l.getD i 0)), R) := den2_eq (l1 := .t (.lst (ii l))) (l2 := .t (.int (i : Nat))) (ρ1 := R) (ρ2 := R) rfl rfl (gIx_l _ (ix_nat hi))
    have c : b__law_same_4 fr R = some (false, R) := dNot_t (dTru_b (dCallP_eq (n := 2) (f := fr) (ts := [.int (l.getD i 0), .int (l.getD i 0)]) (dCons_eq g0 rfl (dCons_eq g1 rfl rfl)) rfl (same_int (f__law_same 3) (l.getD i 0)) rfl))
    exact ⟨R, R, rfl, (dIfS_f (c := b__law_same_4 fr) (d := t__law_same_5 fr) (d' := dNx) c).trans rfl, _, rfl⟩) (E .un) ⟨.un, rfl⟩
  have s7 : t__law_same_7 fr (E .un) = some (.nx, E k) := dFor_eq (as := [2]) (iRange1_eq (n := l.length) (den1_eq (d := gVar 1) (l1 := .t (.lst (ii l))) (ρ := E .un) (ρ1 := E .un) rfl (gLen_l _ l)) (by omega)) hf
  have s9 : t__law_same_9 fr (E .un) = some (.ret (.t (.bl true)), E k) := by
    have b : b__law_same_1 fr (E .un) = some (true, E .un) := rfl
    refine (dIfS_t (c := b__law_same_1 fr) (d' := dNx) b).trans ?_
    rw [dSeq_nx n2, dSeq_nx n4, dSeq_nx s7]
    rfl
  have hd : d__law_same fr (E .un) = some (.ret (.t (.bl true)), E k) := by
    unfold d__law_same
    exact dSeq_ret s9
  exact bodyP_t (n := 2) (m := 3) (d := d__law_same fr) rfl hd
end LK
/-! papers as the law looks at them; draws of rows -/
namespace LK
open PySem LW
open L2 (atI ixN)
open LR (FS Sm Nm Inv isRow dotR startF runF lensF showsB tapsB)
def shownB (p : Int) (row taps other : List Int) (a : Int) : Bool :=
  if (row.filter fun x => decide (x ≠ 0)).length = 0 then decide (taps = []) && (decide (other = []) && decide (a = 0 - 1))
  else if !isRow p taps row || (decide (a < 0) || (decide ((row.length : Int) ≤ a) || (!decide (a + 1 - other.length = taps.length) || decide ((row.length : Int) < taps.length)))) then false
  else isRow p other (row.take a.toNat) && (decide ((other.length : Int) ≤ a) && !isRow p other (row.take (a + 1).toNat))
section
variable {p : Int} {row taps other : List Int} {a : Int}
theorem ev_shown (hp : 0 < p) (h1 : Sm taps) (h2 : Sm other) (hr : row.length ≤ 900) (l1 : taps.length ≤ 1000) (l2 : other.length ≤ 1000) :
    f__law_shown [.int p, .lst (ii row), .lst (ii taps), .lst (ii other), .int a] = some (.t (.bl (shownB p row taps other a))) := by
  let F (x : L) : REnv := E__law_shown (.t (.int p)) (.t (.lst (ii row))) (.t (.lst (ii taps))) (.t (.lst (ii other))) (.t (.int a)) x
  let E : REnv := F .un
  have hc : c__law_shown_1 E = some (.own (.lst (ii (row.filter fun x => decide (x ≠ 0)))), E) := by
    unfold c__law_shown_1
    have := compD_eq (src := iSeq (gVar 1)) (vs := [5]) (g := gNameT 5) (dt := dBl (den2 (gB gNe) (gVar 5) (gC (.int 0)))) (de := gVar 5) (ρ := E) (ρ1 := E) (ρ2 := E) (ho := none) (xs := row.map T.int) rfl
      (compL_fm (vs := [5]) (g := gNameT 5) (dt := dBl (den2 (gB gNe) (gVar 5) (gC (.int 0)))) (de := gVar 5) (ρ := E) (fun x : Int => T.int x) (fun x => decide (x ≠ 0)) (fun x => T.int x) row fun x hx => by
        have c := dBl_eq (den2_eq (g := gB gNe) (d1 := gVar 5) (d2 := gC (.int 0)) (l1 := .t (.int x)) (l2 := .t (.int 0)) (ρ := F (.t (.int x))) (ρ1 := F (.t (.int x))) (ρ2 := F (.t (.int x))) rfl rfl (gNe_i _ _ _))
        exact ⟨F (.t (.int x)), F (.t (.int x)), rfl, by rw [c, decide_not], fun _ => ⟨_, F (.t (.int x)), rfl, rfl, rfl⟩, fun _ => rfl⟩) (by rw [List.length_map]; exact Nat.le_trans (List.length_filter_le _ _) (Nat.le_trans hr (by decide)))
    exact this
  have b1 : b__law_shown_1 E = some (decide ((row.filter fun x => decide (x ≠ 0)).length = 0), E) := by
    have := dBl_eq (den2_eq (g := gB gEq) (den1_eq hc (gLen_n _ _)) (d2 := gC (.int 0)) (l2 := .t (.int 0)) (ρ2 := E) rfl (gEq_i _ _ _))
    rw [ii_len] at this
    rwa [show decide ((((row.filter fun x => decide (x ≠ 0)).length : Nat) : Int) = 0) = decide ((row.filter fun x => decide (x ≠ 0)).length = 0) from decide_eq_decide.mpr (by omega)] at this
  unfold shownB
  by_cases hz : (row.filter fun x => decide (x ≠ 0)).length = 0
  · rw [if_pos hz]
    rw [decide_eq_true hz] at b1
    have e1 : den2 (gB gEq) (gVar 2) (dLst dNil) E = some (.t (.bl (decide (taps = []))), E) := den2_eq (l1 := .t (.lst (ii taps))) (ρ1 := E) (l2 := .own (.lst (ii []))) (ρ2 := E) rfl (dLst_eq rfl (by decide)) (LR.gEq_lo E taps [])
    have e2 : den2 (gB gEq) (gVar 3) (dLst dNil) E = some (.t (.bl (decide (other = []))), E) := den2_eq (l1 := .t (.lst (ii other))) (ρ1 := E) (l2 := .own (.lst (ii []))) (ρ2 := E) rfl (dLst_eq rfl (by decide)) (LR.gEq_lo E other [])
    have e3 : den2 (gB gEq) (gVar 4) (den2 gSub (gC (.int 0)) (gC (.int 1))) E = some (.t (.bl (decide (a = 0 - 1))), E) := den2_eq (l1 := .t (.int a)) (l2 := .t (.int (0 - 1))) (ρ1 := E) (ρ2 := E) rfl rfl (gEq_i _ _ _)
    have s2 : t__law_shown_2 E = some (.ret (.t (.bl (decide (taps = []) && (decide (other = []) && decide (a = 0 - 1))))), E) :=
      (dIfS_t (c := b__law_shown_1) (d := t__law_shown_1) (d' := dNx) b1).trans (dRet_eq (LR.dAndV_b e1 (LR.dAndV_b e2 e3 rfl) rfl))
    have hd : d__law_shown E = some (.ret (.t (.bl (decide (taps = []) && (decide (other = []) && decide (a = 0 - 1))))), E) := dSeq_ret s2
    exact bodyP_t (n := 5) (m := 6) (d := d__law_shown) rfl hd
  · rw [if_neg hz]
    rw [decide_eq_false hz] at b1
    have s2 : t__law_shown_2 E = some (.nx, E) := (dIfS_f (c := b__law_shown_1) (d := t__law_shown_1) (d' := dNx) b1).trans rfl
    have lo := den1_eq (g := gLen) (d := gVar 3) (ρ := E) (ρ1 := E) (l1 := .t (.lst (ii other))) rfl (gLen_l E other)
    have lt := den1_eq (g := gLen) (d := gVar 2) (ρ := E) (ρ1 := E) (l1 := .t (.lst (ii taps))) rfl (gLen_l E taps)
    have lr := den1_eq (g := gLen) (d := gVar 1) (ρ := E) (ρ1 := E) (l1 := .t (.lst (ii row))) rfl (gLen_l E row)
    have c1 : dNot (dTru (dCallP 3 f__law_follows (dCons (gVar 0) (dCons (gVar 1) (dCons (gVar 2) dNil))))) E = some (!isRow p taps row, E) :=
      dNot_t (dTru_b (dCallP_eq (ts := [.int p, .lst (ii row), .lst (ii taps)]) (ρ1 := E) rfl rfl (ev_follows hp h1 l1 (by omega)) rfl))
    have c2 : dBl (den2 (gB gLt) (gVar 4) (gC (.int 0))) E = some (decide (a < 0), E) := dBl_eq (den2_eq (l1 := .t (.int a)) (l2 := .t (.int 0)) (ρ1 := E) (ρ2 := E) rfl rfl (gLt_i _ _ _))
    have c3 : dBl (den2 (gB gGe) (gVar 4) (den1 gLen (gVar 1))) E = some (decide ((row.length : Int) ≤ a), E) := dBl_eq (den2_eq (g := gB gGe) (d1 := gVar 4) (l1 := .t (.int a)) (ρ1 := E) rfl lr (gGe_i _ _ _))
    have c4 : dBl (den2 (gB gNe) (den2 gSub (den2 gAdd (gVar 4) (gC (.int 1))) (den1 gLen (gVar 3))) (den1 gLen (gVar 2))) E = some (!decide (a + 1 - other.length = taps.length), E) := by
      have a1 : den2 gAdd (gVar 4) (gC (.int 1)) E = some (.t (.int (a + 1)), E) := den2_eq (l1 := .t (.int a)) (l2 := .t (.int 1)) (ρ1 := E) (ρ2 := E) rfl rfl rfl
      exact dBl_eq (den2_eq (g := gB gNe) (den2_eq (g := gSub) a1 lo (l := .t (.int (a + 1 - other.length))) rfl) lt (gNe_i E _ _))
    have c5 : dBl (den2 (gB gGt) (den1 gLen (gVar 2)) (den1 gLen (gVar 1))) E = some (decide ((row.length : Int) < taps.length), E) := dBl_eq (den2_eq (g := gB gGt) lt lr (gGt_i _ _ _))
    have b2 : b__law_shown_2 E = some (!isRow p taps row || (decide (a < 0) || (decide ((row.length : Int) ≤ a) || (!decide (a + 1 - other.length = taps.length) || decide ((row.length : Int) < taps.length)))), E) :=
      LR.dOr_b c1 (LR.dOr_b c2 (LR.dOr_b c3 (LR.dOr_b c4 c5 rfl) rfl) rfl) rfl
    cases hb : (!isRow p taps row || (decide (a < 0) || (decide ((row.length : Int) ≤ a) || (!decide (a + 1 - other.length = taps.length) || decide ((row.length : Int) < taps.length))))) with
    | true =>
      rw [if_pos rfl]
      rw [hb] at b2
      have s3 : t__law_shown_4 E = some (.ret (.t (.bl false)), E) := (dIfS_t (c := b__law_shown_2) (d := t__law_shown_3) (d' := dNx) b2).trans rfl
      have hd : d__law_shown E = some (.ret (.t (.bl false)), E) := by
        unfold d__law_shown
        rw [dSeq_nx s2]
        exact dSeq_ret s3
      exact bodyP_t (n := 5) (m := 6) (d := d__law_shown) rfl hd
    | false =>
      rw [if_neg Bool.false_ne_true]
      rw [hb] at b2
      have s3 : t__law_shown_4 E = some (.nx, E) := (dIfS_f (c := b__law_shown_2) (d := t__law_shown_3) (d' := dNx) b2).trans rfl
      rw [Bool.or_eq_false_iff, Bool.or_eq_false_iff] at hb
      have ha : ¬ a < 0 := of_decide_eq_false hb.2.1
      obtain ⟨m, rfl⟩ : ∃ m : Nat, a = m := ⟨a.toNat, by omega⟩
      have sl : ∀ (j : Nat) (d : Den), d E = some (.t (.int (j : Nat)), E) → dCallP 3 f__law_follows (dCons (gVar 0) (dCons (dSl (gVar 1) dNone (dSome d)) (dCons (gVar 3) dNil))) E = some (.t (.bl (isRow p other (row.take j))), E) := fun j d hd => by
        have hs : dSl (gVar 1) dNone (dSome d) E = some (.own (.lst (ii (row.take j))), E) := by
          refine dSl_eq (l := .t (.lst (ii row))) (ρ1 := E) (ρ2 := E) rfl rfl (dSome_eq (i := ((j : Nat) : Int)) hd) ?_
          rw [gSl_l, cut_hi]
          simp only [ii, List.map_take]
        exact dCallP_eq (ts := [.int p, .lst (ii (row.take j)), .lst (ii other)]) (dCons_eq (l := .t (.int p)) (ρ1 := E) rfl rfl (dCons_eq hs rfl (dCons_eq (l := .t (.lst (ii other))) (ρ1 := E) rfl rfl rfl))) rfl (ev_follows hp h2 l2 (by rw [List.length_take]; omega)) rfl
      have a1 : den2 gAdd (gVar 4) (gC (.int 1)) E = some (.t (.int ((m + 1 : Nat) : Int)), E) := den2_eq (l1 := .t (.int (m : Nat))) (l2 := .t (.int 1)) (ρ1 := E) (ρ2 := E) rfl rfl rfl
      have le : den2 (gB gLe) (den1 gLen (gVar 3)) (gVar 4) E = some (.t (.bl (decide ((other.length : Int) ≤ (m : Nat)))), E) := den2_eq (g := gB gLe) lo (d2 := gVar 4) (l2 := .t (.int (m : Nat))) (ρ2 := E) rfl rfl
      have s4 : t__law_shown_5 E = some (.ret (.t (.bl (isRow p other (row.take m) && (decide ((other.length : Int) ≤ (m : Nat)) && !isRow p other (row.take (m + 1)))))), E) := dRet_eq (LR.dAndV_b (sl m (gVar 4) rfl) (LR.dAndV_b le (LR.dNotV_b (sl (m + 1) _ a1)) rfl) rfl)
      have hd : d__law_shown E = some (.ret (.t (.bl (isRow p other (row.take m) && (decide ((other.length : Int) ≤ (m : Nat)) && !isRow p other (row.take (m + 1)))))), E) := by
        unfold d__law_shown
        rw [dSeq_nx s2, dSeq_nx s3]
        exact s4
      rw [show ((m : Int)).toNat = m from rfl, show ((m : Int) + 1).toNat = m + 1 from rfl]
      exact bodyP_t (n := 5) (m := 6) (d := d__law_shown) rfl hd
end
/-! ### the judge says what the law finds -/
theorem tapsB_t {p : Nat} {l : List Int} (h : Nm p l) (hz : l.length ≤ 40) : tapsB p l = true := by
  unfold tapsB
  rw [Bool.and_eq_true, List.all_eq_true]
  refine ⟨fun x hx => ?_, decide_eq_true hz⟩
  have := h x hx
  rw [decide_eq_true this.1, decide_eq_true (by omega)]; rfl
theorem isRow_zero {p : Nat} {row l : List Int} (hz : ∀ x ∈ row, x = 0) : isRow p l row = true := by
  have gz : ∀ i, BM.g row i = 0 := fun i => by
    show row.getD i 0 = 0
    by_cases hi : i < row.length
    · rw [List.getD_eq_getElem?_getD, List.getElem?_eq_getElem hi]; exact hz _ (List.getElem_mem hi)
    · rw [List.getD_eq_getElem?_getD, List.getElem?_eq_none (by omega)]; rfl
  unfold isRow
  rw [List.all_eq_true]
  intro i hi
  have hi : i < row.length - l.length := by simpa using hi
  rw [dot_take (by omega) (by omega)]
  have : BM.dot (BM.g l) (BM.g row) l.length (l.length + i) = 0 := BM.sm_zero fun j _ => by rw [gz]; simp
  rw [this, show row.getD (l.length + i) 0 = 0 from gz _]
  simp
theorem shows_shown {p : Nat} {row taps other : List Int} {a : Int} (h1 : Nm p taps) (h2 : Nm p other) (l1 : taps.length ≤ 40) (l2 : other.length ≤ 40) : showsB p row taps other a = shownB p row taps other a := by
  unfold showsB shownB
  rw [tapsB_t h1 l1, tapsB_t h2 l2]
  by_cases hz : (row.filter fun x => decide (x ≠ 0)).length = 0
  · rw [if_pos hz]
    have hz' : ∀ x ∈ row, x = 0 := fun x hx => by
      have := List.filter_eq_nil_iff.mp (List.eq_nil_of_length_eq_zero hz) x hx
      simpa using this
    have hany : (row.any fun x => x != 0) = false := by
      rw [List.any_eq_false]
      intro x hx
      simp [hz' x hx]
    by_cases ha : a = -1
    · subst ha
      have e : (!true || (!true || !(decide ((-1 : Int) ≤ -1) && decide ((-1 : Int) ≤ (row.length : Int) - 1)))) = false := by
        rw [decide_eq_true (show (-1 : Int) ≤ (row.length : Int) - 1 by omega)]; rfl
      rw [e, if_neg Bool.false_ne_true, if_pos (by decide), hany]
      simp
    · have er : (decide (taps = []) && (decide (other = []) && decide (a = 0 - 1))) = false := by
        rw [decide_eq_false (show ¬ a = 0 - 1 by omega)]; simp
      rw [er]
      split
      · rfl
      · rename_i hc
        by_cases h0 : a < 0
        · exfalso
          apply hc
          rw [decide_eq_false (show ¬ (-1 : Int) ≤ a by omega)]; rfl
        · rw [if_neg h0]
          split
          · rfl
          · rw [isRow_zero (row := row.take (a + 1).toNat) fun x hx => hz' x (List.mem_of_mem_take hx)]
            simp
  · rw [if_neg hz]
    have hany : (row.any fun x => x != 0) = true := by
      rw [List.any_eq_true]
      have := List.length_pos_iff.mp (Nat.pos_of_ne_zero hz)
      obtain ⟨x, hx⟩ := List.exists_mem_of_ne_nil _ this
      exact ⟨x, (List.mem_filter.mp hx).1, by simpa using (List.mem_filter.mp hx).2⟩
    by_cases h0 : a < 0
    · have er : (!isRow p taps row || (decide (a < 0) || (decide ((row.length : Int) ≤ a) || (!decide (a + 1 - other.length = taps.length) || decide ((row.length : Int) < taps.length))))) = true := by
        rw [decide_eq_true h0]; simp
      rw [er, if_pos rfl, if_pos h0, hany]
      split <;> simp
    · by_cases hL : (row.length : Int) ≤ a
      · have er : (!isRow p taps row || (decide (a < 0) || (decide ((row.length : Int) ≤ a) || (!decide (a + 1 - other.length = taps.length) || decide ((row.length : Int) < taps.length))))) = true := by
          rw [decide_eq_true hL]; simp
        have el : (!true || (!true || !(decide ((-1 : Int) ≤ a) && decide (a ≤ (row.length : Int) - 1)))) = true := by
          rw [decide_eq_false (show ¬ a ≤ (row.length : Int) - 1 by omega)]; simp
        rw [er, el]; rfl
      · have el : (!true || (!true || !(decide ((-1 : Int) ≤ a) && decide (a ≤ (row.length : Int) - 1)))) = false := by
          rw [decide_eq_true (show (-1 : Int) ≤ a by omega), decide_eq_true (show a ≤ (row.length : Int) - 1 by omega)]; rfl
        rw [el, if_neg Bool.false_ne_true, if_neg h0, decide_eq_false h0, decide_eq_false hL]
        by_cases he : a + 1 - other.length = taps.length
        · rw [decide_eq_true he, decide_eq_false (show ¬ (row.length : Int) < taps.length by omega)]
          by_cases ho : a < other.length
          · rw [decide_eq_true ho, decide_eq_false (show ¬ (other.length : Int) ≤ a by omega)]
            cases isRow p taps row <;> simp
          · rw [decide_eq_false ho, decide_eq_true (show (other.length : Int) ≤ a by omega)]
            cases isRow p taps row <;> simp
        · rw [decide_eq_false he]
          cases isRow p taps row <;> simp
/-! ### draws -/
theorem bodyF_o {n m : Nat} {as : List Nat} {d : DenS} {xs ts ys : List T} {ρ' : REnv} {c : OC} (hl : (decide (ts.length + 1 = n) && !as.contains 0) = true) (h : d (L.own (.lst xs) :: (ts.map L.t ++ List.replicate (m - n) L.un)) = some (.ret (.own c), ρ')) (h0 : ρ'[0]? = some (L.own (.lst ys))) : bodyF n m as d xs ts = some (.own c, ys) := by
  simp only [bodyF, hl, h, h0, if_true, Option.bind_some, finP, Option.map_some]
theorem drw {i : Nat} {da : DenA} {ρ ρ1 : REnv} {fd : List T} {m : Int} (ho : isOwnL ρ i = true) (ha : da ρ = some ([.int m], ρ1)) (h1 : ρ1[i]? = some (.own (.lst fd))) (hf : GF fd) (hm : 0 < m) (hm2 : m < 1073741824) :
    ∃ (v : Nat) (fd' : List T), dCallF 2 i g__law_draw da ρ = some (.t (.int (v : Nat)), ρ1.set i (.own (.lst fd'))) ∧ (v : Int) < m ∧ GF fd' := by
  rw [gd]
  exact drwD ho ha h1 hf hm hm2
theorem ev_drawn {fd : List T} {p m : Nat} (hf : GF fd) (hp : 0 < p) (hp2 : p < 1000) (hm : m < 9000) : ∃ l fd', g__law_drawn_numbers fd [.int (p : Nat), .int (m : Nat)] = some (.own (.lst (ii l)), fd') ∧ l.length = m ∧ Nm p l ∧ GF fd' := by
  let E (fd : List T) (k : L) : REnv := E__law_drawn_numbers (.own (.lst fd)) (.t (.int (p : Nat))) (.t (.int (m : Nat))) k
  obtain ⟨ys, fd', h1, h2, h3, h4⟩ := compL_draw (vs := [3]) (g := gNameT 3) (de := dCallF 2 0 g__law_draw (dCons (gVar 1) dNil)) (m := (p : Nat)) (fun fd => E fd .un) ((List.range m).map fun i => T.int (i : Nat)) (fun x hx fd hf => by
    obtain ⟨i, hi, rfl⟩ := List.mem_map.mp hx
    obtain ⟨v, fd', e, h1, h2⟩ := drw (i := 0) (da := dCons (gVar 1) dNil) (ρ := E fd (.t (.int (i : Nat)))) (m := (p : Nat)) rfl rfl rfl hf (by omega) (by omega)
    exact ⟨_, v, fd', _, rfl, e, rfl, by omega, h1, h2⟩) fd hf
  have hc : c__law_drawn_numbers_1 (E fd .un) = some (.own (.lst (ii ys)), E fd' .un) := by
    unfold c__law_drawn_numbers_1
    exact compD_eq (ho := none) (iRange1_eq (n := m) (d := gVar 2) (ρ' := E fd .un) rfl (by omega)) h1 (by rw [ii_len, h2, List.length_map, List.length_range]; exact Nat.le_trans (show m ≤ 10000 by omega) (by decide))
  refine ⟨ys, fd', ?_, by rw [h2]; simp, h3, h4⟩
  have hd : t__law_drawn_numbers_1 (E fd .un) = some (.ret (.own (.lst (ii ys))), E fd' .un) := by
    unfold t__law_drawn_numbers_1
    exact dRet_eq hc
  exact bodyF_o (n := 3) (m := 4) (as := []) (d := d__law_drawn_numbers) rfl hd rfl
end LK
/-! a drawn row -/
namespace LK
open PySem LW
open L2 (atI ixN)
open LR (FS Sm Nm Inv isRow dotR startF runF lensF showsB tapsB)
theorem callF2 {i : Nat} {g : List T → List T → Option (L × List T)} {da : DenA} {ρ ρ1 : REnv} {fd fd' : List T} {x y : T} {r : L} (ho : isOwnL ρ i = true) (ha : da ρ = some ([x, y], ρ1)) (h1 : ρ1[i]? = some (.own (.lst fd))) (e : g fd [x, y] = some (r, fd')) (hr : nor r = some r) :
    dCallF 3 i g da ρ = some (r, ρ1.set i (.own (.lst fd'))) := by
  simp only [dCallF, ho, ha, h1, e, if_true, Option.bind_some, List.length_cons, List.length_nil, Nat.zero_add, Nat.reduceAdd, hr, Option.map_some]
theorem grow_Nm {p : Nat} {taps begun : List Int} (hp : 0 < p) (hb : Nm p begun) : ∀ n, Nm p (grow p taps begun n)
  | 0 => hb
  | n + 1 => (grow_Nm hp hb n).app (LR.Nm.one ⟨Int.emod_nonneg _ (by omega), Int.emod_lt_of_pos _ (by omega)⟩)
theorem rowR_Nm {p : Nat} {taps begun : List Int} {m : Nat} (hp : 0 < p) (hb : Nm p begun) : Nm p (rowR p taps begun m) := fun x hx => grow_Nm hp hb _ x (List.mem_of_mem_take hx)
theorem rowR_len {p : Int} {taps begun : List Int} {m : Nat} : (rowR p taps begun m).length ≤ m := by unfold rowR; rw [List.length_take]; omega
theorem ev_law_drawn_row {fd : List T} {p : Nat} (hp : BM.isP p) (hf : GF fd) : ∃ row fd', g__law_row fd [.int (p : Nat)] = some (.own (.lst (ii row)), fd') ∧ Nm p row ∧ row.length ≤ 40 ∧ GF fd' := by
  have pp := hp.pos
  let E (fd : List T) (k s : L) : REnv := E__law_row (.own (.lst fd)) (.t (.int (p : Nat))) k s
  obtain ⟨v, fd1, e1, hv, g1⟩ := drw (i := 0) (da := dCons (gC (.int 5)) dNil) (ρ := E fd .un .un) (m := 5) rfl rfl rfl hf (by decide) (by decide)
  have s1 : t__law_row_1 (E fd .un .un) = some (.nx, E fd1 (Z v) .un) := dSet_t (i := 2) e1 (show 2 < 4 by decide)
  suffices h : ∃ row fd' ρ', dSeq t__law_row_4 (dSeq t__law_row_6 (dSeq t__law_row_8 t__law_row_9)) (E fd1 (Z v) .un) = some (.ret (.own (.lst (ii row))), ρ') ∧ ρ'[0]? = some (.own (.lst fd')) ∧ Nm p row ∧ row.length ≤ 40 ∧ GF fd' by
    obtain ⟨row, fd', ρ', h1, h2, h3, h4, h5⟩ := h
    refine ⟨row, fd', ?_, h3, h4, h5⟩
    have hd : d__law_row (E fd .un .un) = some (.ret (.own (.lst (ii row))), ρ') := by
      unfold d__law_row
      rw [dSeq_nx s1]
      exact h1
    exact bodyF_o (n := 2) (m := 4) (as := [2, 3]) (d := d__law_row) rfl hd h2
  have zrow : ∀ (fd : List T) (s : L) (m : Nat) (d : Den) (fd' : List T), m < 900 → d (E fd (Z v) s) = some (.t (.int (m : Nat)), E fd' (Z v) s) → den2 gMul (dLst (dCons (gC (.int 0)) dNil)) d (E fd (Z v) s) = some (.own (.lst (ii (List.replicate m 0))), E fd' (Z v) s) := fun fd s m d fd' hm hd => by
    have := den2_eq (g := gMul) (dLst_eq (da := dCons (gC (.int 0)) dNil) (ρ := E fd (Z v) s) (ts := [.int 0]) rfl (show (1 : Nat) ≤ line by decide)) hd (gMul_one _ (.int 0) (k := (m : Nat)) (by omega) (by omega))
    rwa [Int.toNat_natCast, rep_ii] at this
  have zn : ∀ m, Nm p (List.replicate m 0) := fun m y hy => by rw [(List.mem_replicate.mp hy).2]; exact ⟨by decide, by omega⟩
  have b1 : b__law_row_1 (E fd1 (Z v) .un) = some (decide ((v : Int) < 2), E fd1 (Z v) .un) := rfl
  by_cases h2 : (v : Int) < 2
  · rw [decide_eq_true h2] at b1
    obtain ⟨w, fd2, e2, hw, g2⟩ := drw (i := 0) (da := dCons (gC (.int 8)) dNil) (ρ := E fd1 (Z v) .un) (m := 8) rfl rfl rfl g1 (by decide) (by decide)
    have s2 : t__law_row_2 (E fd1 (Z v) .un) = some (.nx, E fd2 (Z v) (Z (w + 1))) := by
      have := dSet_t (i := 3) (den2_eq (g := gAdd) (d1 := gC (.int 1)) (l1 := .t (.int 1)) (ρ := E fd1 (Z v) .un) (ρ1 := E fd1 (Z v) .un) rfl e2 (l := .t (.int (1 + (w : Nat)))) rfl) (show 3 < 4 by decide)
      rw [show (1 + ((w : Nat) : Int)) = ((w + 1 : Nat) : Int) by omega] at this
      exact this
    obtain ⟨tp, fd3, e3, l3, n3, g3⟩ := ev_drawn (p := p) (m := w + 1) g2 (by omega) (by omega) (by omega)
    obtain ⟨bg, fd4, e4, l4, n4, g4⟩ := ev_drawn (p := p) (m := w + 1) g3 (by omega) (by omega) (by omega)
    let S : L := Z (w + 1)
    have c3 := callF2 (i := 0) (g := g__law_drawn_numbers) (da := dCons (gVar 1) (dCons (dFrz 3) dNil)) (ρ := E fd2 (Z v) S) (ρ1 := E fd2 (Z v) S) rfl rfl rfl e3 rfl
    have c4 := callF2 (i := 0) (g := g__law_drawn_numbers) (da := dCons (gVar 1) (dCons (dFrz 3) dNil)) (ρ := E fd3 (Z v) S) (ρ1 := E fd3 (Z v) S) rfl rfl rfl e4 rfl
    obtain ⟨u, fd5, e5, hu, g5⟩ := drw (i := 0) (da := dCons (gC (.int 6)) dNil) (ρ := E fd4 (Z v) S) (m := 6) rfl rfl rfl g4 (by decide) (by decide)
    let b : Nat := if v = 0 then 20 else 40
    have i5 : den2 gIx (dLst (dCons (gC (.int 20)) (dCons (gC (.int 40)) dNil))) (gVar 2) (E fd4 (Z v) S) = some (.t (.int (b : Nat)), E fd4 (Z v) S) := by
      refine den2_eq (dLst_eq (ρ := E fd4 (Z v) S) (ts := [.int 20, .int 40]) rfl (show (2 : Nat) ≤ line by decide)) (d2 := gVar 2) (l2 := Z v) (ρ2 := E fd4 (Z v) S) rfl (gIx_n _ ?_)
      have : v = 0 ∨ v = 1 := by omega
      rcases this with rfl | rfl <;> exact L2.atI_nat (by rfl)
    have m5 : den2 gSub (den2 gIx (dLst (dCons (gC (.int 20)) (dCons (gC (.int 40)) dNil))) (gVar 2)) (dCallF 2 0 g__law_draw (dCons (gC (.int 6)) dNil)) (E fd4 (Z v) S) = some (.t (.int ((b - u : Nat) : Int)), E fd5 (Z v) S) := by
      have := den2_eq (g := gSub) i5 e5 (l := .t (.int ((b : Int) - u))) rfl
      rw [show ((b : Int) - (u : Nat)) = ((b - u : Nat) : Int) by simp only [b]; split <;> omega] at this
      exact this
    have rr := ev_law_row (p := (p : Int)) (taps := tp) (begun := bg) (m := b - u) (by omega) (n3.sm hp) (by omega) (by omega) (by omega) (by simp only [b]; split <;> omega)
    have c5 := dCallP_eq (n := 4) (f := f__law_register_row) (ρ := E fd2 (Z v) S) (dCons_eq (d := gVar 1) (l := .t (.int (p : Nat))) (ρ1 := E fd2 (Z v) S) rfl rfl (dCons_eq c3 rfl (dCons_eq c4 rfl (dCons_eq (da := dNil) m5 rfl rfl)))) rfl rr rfl
    have s4 : t__law_row_4 (E fd1 (Z v) .un) = some (.ret (.own (.lst (ii (rowR p tp bg (b - u))))), E fd5 (Z v) S) := (dIfS_t (c := b__law_row_1) (d' := dNx) b1).trans ((dSeq_nx s2).trans (dRet_eq c5))
    exact ⟨_, fd5, _, dSeq_ret s4, rfl, rowR_Nm (by omega) n4, Nat.le_trans rowR_len (by simp only [b]; split <;> omega), g5⟩
  · rw [decide_eq_false h2] at b1
    have s4 : t__law_row_4 (E fd1 (Z v) .un) = some (.nx, E fd1 (Z v) .un) := (dIfS_f (c := b__law_row_1) (d' := dNx) b1).trans rfl
    rw [dSeq_nx s4]
    have b2 : b__law_row_2 (E fd1 (Z v) .un) = some (decide ((v : Int) = 2), E fd1 (Z v) .un) := dBl_eq (den2_eq (g := gB gEq) (d1 := gVar 2) (d2 := gC (.int 2)) (l1 := Z v) (l2 := .t (.int 2)) (ρ := E fd1 (Z v) .un) (ρ1 := E fd1 (Z v) .un) (ρ2 := E fd1 (Z v) .un) rfl rfl (gEq_i _ _ _))
    by_cases h3 : (v : Int) = 2
    · rw [decide_eq_true h3] at b2
      obtain ⟨w, fd2, e2, hw, g2⟩ := drw (i := 0) (da := dCons (gC (.int 19)) dNil) (ρ := E fd1 (Z v) .un) (m := 19) rfl rfl rfl g1 (by decide) (by decide)
      obtain ⟨tp, fd3, e3, l3, n3, g3⟩ := ev_drawn (p := p) (m := w) g2 (by omega) (by omega) (by omega)
      have c3 := callF2 (i := 0) (g := g__law_drawn_numbers) (da := dCons (gVar 1) (dCons (dCallF 2 0 g__law_draw (dCons (gC (.int 19)) dNil)) dNil)) (ρ := E fd1 (Z v) .un) (ρ1 := E fd2 (Z v) .un) rfl (dCons_eq (l := .t (.int (p : Nat))) (ρ1 := E fd1 (Z v) .un) rfl rfl (dCons_eq (da := dNil) e2 rfl rfl)) rfl e3 rfl
      have s6 : t__law_row_6 (E fd1 (Z v) .un) = some (.ret (.own (.lst (ii tp))), E fd3 (Z v) .un) := (dIfS_t (c := b__law_row_2) (d' := dNx) b2).trans (dRet_eq c3)
      exact ⟨tp, fd3, _, dSeq_ret s6, rfl, n3, by omega, g3⟩
    · rw [decide_eq_false h3] at b2
      have s6 : t__law_row_6 (E fd1 (Z v) .un) = some (.nx, E fd1 (Z v) .un) := (dIfS_f (c := b__law_row_2) (d' := dNx) b2).trans rfl
      rw [dSeq_nx s6]
      have b3 : b__law_row_3 (E fd1 (Z v) .un) = some (decide ((v : Int) = 3), E fd1 (Z v) .un) := dBl_eq (den2_eq (g := gB gEq) (d1 := gVar 2) (d2 := gC (.int 3)) (l1 := Z v) (l2 := .t (.int 3)) (ρ := E fd1 (Z v) .un) (ρ1 := E fd1 (Z v) .un) (ρ2 := E fd1 (Z v) .un) rfl rfl (gEq_i _ _ _))
      by_cases h4 : (v : Int) = 3
      · rw [decide_eq_true h4] at b3
        obtain ⟨w, fd2, e2, hw, g2⟩ := drw (i := 0) (da := dCons (gC (.int 9)) dNil) (ρ := E fd1 (Z v) .un) (m := 9) rfl rfl rfl g1 (by decide) (by decide)
        obtain ⟨y, fd3, e3, hy, g3⟩ := drw (i := 0) (da := dCons (gC (.int 8)) dNil) (ρ := E fd2 (Z v) .un) (m := 8) rfl rfl rfl g2 (by decide) (by decide)
        obtain ⟨tp, fd4, e4, l4, n4, g4⟩ := ev_drawn (p := p) (m := y + 1) g3 (by omega) (by omega) (by omega)
        have a3 : den2 gAdd (gC (.int 1)) (dCallF 2 0 g__law_draw (dCons (gC (.int 8)) dNil)) (E fd2 (Z v) .un) = some (Z (y + 1), E fd3 (Z v) .un) := by
          have := den2_eq (g := gAdd) (d1 := gC (.int 1)) (l1 := .t (.int 1)) (ρ := E fd2 (Z v) .un) (ρ1 := E fd2 (Z v) .un) rfl e3 (l := .t (.int (1 + (y : Nat)))) rfl
          rw [show (1 + ((y : Nat) : Int)) = ((y + 1 : Nat) : Int) by omega] at this
          exact this
        have c4 := callF2 (i := 0) (g := g__law_drawn_numbers) (da := dCons (gVar 1) (dCons (den2 gAdd (gC (.int 1)) (dCallF 2 0 g__law_draw (dCons (gC (.int 8)) dNil))) dNil)) (ρ := E fd2 (Z v) .un) (ρ1 := E fd3 (Z v) .un) rfl (dCons_eq (l := .t (.int (p : Nat))) (ρ1 := E fd2 (Z v) .un) rfl rfl (dCons_eq (da := dNil) a3 rfl rfl)) rfl e4 rfl
        have z := zrow fd1 .un w _ fd2 (by omega) e2
        have ad := den2_eq (g := gAdd) z c4 (gAdd_o _ (by rw [ii_len, ii_len, List.length_replicate]; exact Nat.le_trans (show _ ≤ 100 by omega) (by decide)))
        rw [show ii (List.replicate w 0) ++ ii tp = ii (List.replicate w 0 ++ tp) by simp [ii]] at ad
        have s8 : t__law_row_8 (E fd1 (Z v) .un) = some (.ret (.own (.lst (ii (List.replicate w 0 ++ tp)))), E fd4 (Z v) .un) := (dIfS_t (c := b__law_row_3) (d' := dNx) b3).trans (dRet_eq ad)
        exact ⟨_, fd4, _, dSeq_ret s8, rfl, (zn w).app n4, by simp; omega, g4⟩
      · rw [decide_eq_false h4] at b3
        have s8 : t__law_row_8 (E fd1 (Z v) .un) = some (.nx, E fd1 (Z v) .un) := (dIfS_f (c := b__law_row_3) (d' := dNx) b3).trans rfl
        rw [dSeq_nx s8]
        obtain ⟨w, fd2, e2, hw, g2⟩ := drw (i := 0) (da := dCons (gC (.int 12)) dNil) (ρ := E fd1 (Z v) .un) (m := 12) rfl rfl rfl g1 (by decide) (by decide)
        have z := zrow fd1 .un w _ fd2 (by omega) e2
        exact ⟨_, fd2, _, dRet_eq z, rfl, zn w, by simp; omega, g2⟩
end LK
/-! papers near the told one -/
namespace LK
open PySem LW
open L2 (atI ixN)
open LR (FS Sm Nm Inv isRow dotR startF runF lensF showsB tapsB)
abbrev Pap := List Int × List Int × Int
def pT (q : Pap) : T := .tup [.lst (ii q.1), .lst (ii q.2.1), .int q.2.2]
def Gp (p : Nat) (q : Pap) : Prop := Nm p q.1 ∧ Nm p q.2.1 ∧ q.1.length ≤ 60 ∧ q.2.1.length ≤ 60
section
variable {p : Nat} {row tp ot : List Int} {pl : Int}
/-- the frame: the told paper is (tp, ot, pl) -/
def EP (p : Nat) (row tp ot : List Int) (pl : Int) (fd : List T) (pa st j one more_ place : L) : REnv := E__law_papers_hold (.own (.lst fd)) (.t (.int (p : Nat))) (.t (.lst (ii row))) (.t (pT (tp, ot, pl))) (.t (.lst (ii tp))) (.t (.lst (ii ot))) (.t (.int pl)) pa st j one more_ place
theorem tup3 {d1 d2 d3 : Den} {ρ ρ1 ρ2 ρ3 : REnv} {l1 l2 l3 : L} {a b : List Int} {c : Int} (h1 : d1 ρ = some (l1, ρ1)) (e1 : l1.tree = some (.lst (ii a))) (h2 : d2 ρ1 = some (l2, ρ2)) (e2 : l2.tree = some (.lst (ii b))) (h3 : d3 ρ2 = some (l3, ρ3)) (e3 : l3.tree = some (.int c)) :
    dTup (dCons d1 (dCons d2 (dCons d3 dNil))) ρ = some (.t (pT (a, b, c)), ρ3) := dTup_eq (dCons_eq h1 e1 (dCons_eq h2 e2 (dCons_eq (da := dNil) h3 e3 rfl))) (show (3 : Nat) ≤ line by decide)
def base5 (tp ot : List Int) (pl : Int) : List Pap := [(tp, ot, pl), (tp ++ [0], ot, pl), (tp, ot ++ [0], pl + 1), (tp, ot, pl + 1), (tp, ot, pl - 1)]
def more5 (row tp ot : List Int) (pl : Int) : List Pap := [(ot, tp, pl), (tp.drop 1, ot, pl), (tp, [], pl), ([], [], 0 - 1), (tp, tp, (row.length : Int))]
theorem add0 {k : Nat} {ρ : REnv} {l : List Int} {x : T} {d : Den} (hk : gVar k ρ = some (.t (.lst (ii l)), ρ)) (hd : dLst (dCons d dNil) ρ = some (.own (.lst [x]), ρ)) (hz : l.length ≤ 60) : den2 gAdd (gVar k) (dLst (dCons d dNil)) ρ = some (.own (.lst (ii l ++ [x])), ρ) :=
  den2_eq hk hd (LR.gAdd_to ρ (by rw [ii_len]; exact Nat.le_trans (show l.length + 1 ≤ 100 by omega) (by decide)))
theorem ph2 {fd : List T} (h1 : tp.length ≤ 50) (h2 : ot.length ≤ 50) : t__law_papers_hold_2 (EP p row tp ot pl fd .un .un .un .un .un .un) = some (.nx, EP p row tp ot pl fd (.own (.lst ((base5 tp ot pl).map pT))) .un .un .un .un .un) := by
  let E := EP p row tp ot pl fd .un .un .un .un .un .un
  have T4 : gVar 4 E = some (.t (.lst (ii tp)), E) := rfl
  have T5 : gVar 5 E = some (.t (.lst (ii ot)), E) := rfl
  have T6 : gVar 6 E = some (.t (.int pl), E) := rfl
  have z : dLst (dCons (gC (.int 0)) dNil) E = some (.own (.lst [.int 0]), E) := dLst_eq (ts := [.int 0]) rfl (show (1 : Nat) ≤ line by decide)
  have a1 : den2 gAdd (gVar 6) (gC (.int 1)) E = some (.t (.int (pl + 1)), E) := den2_eq T6 (l2 := .t (.int 1)) (ρ2 := E) rfl rfl
  have s1 : den2 gSub (gVar 6) (gC (.int 1)) E = some (.t (.int (pl - 1)), E) := den2_eq T6 (l2 := .t (.int 1)) (ρ2 := E) rfl rfl
  have e4 := add0 T4 z (by omega)
  have e5 := add0 T5 z (by omega)
  rw [ii_app] at e4 e5
  exact dSet_o (i := 7) (dLst_eq (ts := (base5 tp ot pl).map pT) (dCons_eq (tup3 T4 rfl T5 rfl T6 rfl) rfl (dCons_eq (tup3 e4 rfl T5 rfl T6 rfl) rfl (dCons_eq (tup3 T4 rfl e5 rfl a1 rfl) rfl (dCons_eq (tup3 T4 rfl T5 rfl a1 rfl) rfl (dCons_eq (da := dNil) (tup3 T4 rfl T5 rfl s1 rfl) rfl rfl))))) (show (5 : Nat) ≤ line by decide)) (show 7 < 13 by decide)
theorem ph3 {fd : List T} (h1 : tp.length ≤ 50) (h2 : ot.length ≤ 50) : t__law_papers_hold_3 (EP p row tp ot pl fd (.own (.lst ((base5 tp ot pl).map pT))) .un .un .un .un .un) = some (.nx, EP p row tp ot pl fd (.own (.lst ((base5 tp ot pl ++ more5 row tp ot pl).map pT))) .un .un .un .un .un) := by
  let E := EP p row tp ot pl fd (.own (.lst ((base5 tp ot pl).map pT))) .un .un .un .un .un
  have T4 : gVar 4 E = some (.t (.lst (ii tp)), E) := rfl
  have T5 : gVar 5 E = some (.t (.lst (ii ot)), E) := rfl
  have T6 : gVar 6 E = some (.t (.int pl), E) := rfl
  have sl : dSl (gVar 4) (dSome (gC (.int 1))) dNone E = some (.own (.lst (ii (tp.drop 1))), E) := by
    refine dSl_eq (l := .t (.lst (ii tp))) (ρ1 := E) (ρ2 := E) (lo := some ((1 : Nat) : Int)) (hi := none) rfl (dSome_eq (i := ((1 : Nat) : Int)) rfl) rfl ?_
    rw [gSl_l, cut_lo]
    simp only [ii, List.map_drop]
  have nl : dLst dNil E = some (.own (.lst (ii [])), E) := dLst_eq rfl (Nat.zero_le _)
  have m1 : den2 gSub (gC (.int 0)) (gC (.int 1)) E = some (.t (.int (0 - 1)), E) := rfl
  have ln : den1 gLen (gVar 2) E = some (.t (.int (row.length : Nat)), E) := den1_eq (l1 := .t (.lst (ii row))) (ρ1 := E) rfl (gLen_l _ row)
  have dl := dLst_eq (ts := (more5 row tp ot pl).map pT) (dCons_eq (tup3 T5 rfl T4 rfl T6 rfl) rfl (dCons_eq (tup3 sl rfl T5 rfl T6 rfl) rfl (dCons_eq (tup3 T4 rfl nl rfl T6 rfl) rfl (dCons_eq (tup3 nl rfl nl rfl m1 rfl) rfl (dCons_eq (da := dNil) (tup3 T4 rfl T4 rfl ln rfl) rfl rfl))))) (show (5 : Nat) ≤ line by decide)
  have := den2_eq (g := gAdd) (d1 := gVar 7) (l1 := .ref 7) (ρ := E) (ρ1 := E) rfl dl (gAdd_ro E (k := 7) (a := (base5 tp ot pl).map pT) rfl (show (10 : Nat) ≤ line by decide))
  rw [← List.map_append] at this
  exact dSet_o (i := 7) this (show 7 < 13 by decide)
/-- a number changed: the list with one number more at place j -/
theorem chgL (hp : BM.isP p) {k j : Nat} {l : List Int} (hl : Nm p l) (hj : j < l.length) (hz : l.length ≤ 60) {fd : List T} {pa st : L} (hk : ∀ fd, gVar k (EP p row tp ot pl fd pa st (Z j) .un .un .un) = some (.t (.lst (ii l)), EP p row tp ot pl fd pa st (Z j) .un .un .un)) (hf : GF fd) :
    ∃ l' fd', den2 gAdd (den2 gAdd (dSl (gVar k) dNone (dSome (gVar 9))) (dLst (dCons (den2 gMod (den1 gInt (den2 gAdd (den2 gAdd (den2 gIx (gVar k) (gVar 9)) (gC (.int 1))) (dCallF 2 0 g__law_draw (dCons (den2 gSub (gVar 1) (gC (.int 1))) dNil)))) (gVar 1)) dNil))) (dSl (gVar k) (dSome (den2 gAdd (gVar 9) (gC (.int 1)))) dNone) (EP p row tp ot pl fd pa st (Z j) .un .un .un)
      = some (.own (.lst (ii l')), EP p row tp ot pl fd' pa st (Z j) .un .un .un) ∧ Nm p l' ∧ l'.length = l.length ∧ GF fd' := by
  have pp := hp.pos
  let E (fd : List T) := EP p row tp ot pl fd pa st (Z j) .un .un .un
  have q : den2 gSub (gVar 1) (gC (.int 1)) (E fd) = some (.t (.int ((p : Int) - 1)), E fd) := den2_eq (l1 := .t (.int (p : Nat))) (l2 := .t (.int 1)) (ρ1 := E fd) (ρ2 := E fd) rfl rfl rfl
  obtain ⟨v, fd', e, hv, g⟩ := drw (i := 0) (da := dCons (den2 gSub (gVar 1) (gC (.int 1))) dNil) (ρ := E fd) (ρ1 := E fd) (m := (p : Int) - 1) rfl (dCons_eq (da := dNil) q rfl rfl) rfl hf (by omega) (by omega)
  let x := (l.getD j 0 + 1 + (v : Nat)) % (p : Int)
  have s1 : dSl (gVar k) dNone (dSome (gVar 9)) (E fd) = some (.own (.lst (ii (l.take j))), E fd) := by
    refine dSl_eq (l := .t (.lst (ii l))) (ρ1 := E fd) (ρ2 := E fd) (hk fd) rfl (dSome_eq (i := ((j : Nat) : Int)) rfl) ?_
    rw [gSl_l, cut_hi]
    simp only [ii, List.map_take]
  have i1 := den2_eq (g := gIx) (hk fd) (d2 := gVar 9) (l2 := Z j) (ρ2 := E fd) rfl (gIx_l _ (ix_nat hj))
  have i2 := den2_eq (g := gAdd) i1 (d2 := gC (.int 1)) (l2 := .t (.int 1)) (ρ2 := E fd) rfl (l := .t (.int (l.getD j 0 + 1))) rfl
  have i3 := den2_eq (g := gAdd) i2 e (l := .t (.int (l.getD j 0 + 1 + (v : Nat)))) rfl
  have i4 := den2_eq (g := gMod) (den1_eq (g := gInt) i3 (gInt_i _ _)) (d2 := gVar 1) (l2 := .t (.int (p : Nat))) (ρ2 := E fd') rfl (gMod_e _ (by omega))
  have i5 := dLst_eq (dCons_eq (da := dNil) i4 rfl rfl) (show (1 : Nat) ≤ line by decide)
  have i6 := den2_eq s1 i5 (gAdd_o (E fd') (by rw [ii_len, List.length_take]; exact Nat.le_trans (show _ ≤ 100 by simp; omega) (by decide)))
  have a1 : den2 gAdd (gVar 9) (gC (.int 1)) (E fd') = some (.t (.int ((j + 1 : Nat) : Int)), E fd') := den2_eq (l1 := Z j) (l2 := .t (.int 1)) (ρ1 := E fd') (ρ2 := E fd') rfl rfl rfl
  have s2 : dSl (gVar k) (dSome (den2 gAdd (gVar 9) (gC (.int 1)))) dNone (E fd') = some (.own (.lst (ii (l.drop (j + 1)))), E fd') := by
    refine dSl_eq (l := .t (.lst (ii l))) (ρ1 := E fd') (ρ2 := E fd') (lo := some ((j + 1 : Nat) : Int)) (hi := none) (hk fd') (dSome_eq (i := ((j + 1 : Nat) : Int)) a1) rfl ?_
    rw [gSl_l, cut_lo]
    simp only [ii, List.map_drop]
  have i7 := den2_eq i6 s2 (gAdd_o (E fd') (by rw [List.length_append, ii_len, ii_len, List.length_take, List.length_drop]; exact Nat.le_trans (show _ ≤ 100 by simp; omega) (by decide)))
  refine ⟨l.take j ++ [x] ++ l.drop (j + 1), fd', ?_, ?_, by simp; omega, g⟩
  · rw [show ii (l.take j) ++ [T.int ((l.getD j 0 + 1 + (v : Nat)) % (p : Int))] ++ ii (l.drop (j + 1)) = ii (l.take j ++ [x] ++ l.drop (j + 1)) by simp [ii, x]] at i7
    exact i7
  · refine LR.Nm.app (LR.Nm.app (fun y hy => hl y (List.mem_of_mem_take hy)) (LR.Nm.one ⟨Int.emod_nonneg _ (by omega), Int.emod_lt_of_pos _ (by omega)⟩)) (fun y hy => hl y (List.mem_of_mem_drop hy))
/-- what the three turns leave -/
def PI (p : Nat) (row tp ot : List Int) (pl : Int) (i : Nat) (ρ : REnv) : Prop := ∃ (fd : List T) (qs : List Pap) (st j : L), ρ = EP p row tp ot pl fd (.own (.lst (qs.map pT))) st j .un .un .un ∧ GF fd ∧ (∀ q ∈ qs, Gp p q) ∧ qs.length ≤ 10 + 2 * i
theorem ph_turn (hp : BM.isP p) (n1 : Nm p tp) (n2 : Nm p ot) (h1 : tp.length ≤ 50) (h2 : ot.length ≤ 50) {i : Nat} (hi : i < 3) {ρ : REnv} (hI : PI p row tp ot pl i ρ) : ∃ ρa ρ', gNameT 8 (T.int (i : Nat)) ρ = some ρa ∧ l__law_papers_hold_1 ρa = some (.nx, ρ') ∧ PI p row tp ot pl (i + 1) ρ' := by
  have pp := hp.pos
  obtain ⟨fd, qs, st, j, rfl, hf, hq, hz⟩ := hI
  -- one append
  have step : ∀ (k : Nat) (c : DenT) (t1 t2 : DenS) (l : List Int) (mk : List Int → Pap), Nm p l → l.length ≤ 50 → (∀ l', Nm p l' → l'.length = l.length → Gp p (mk l')) →
      (∀ fd pa st j, c (EP p row tp ot pl fd pa st j .un .un .un) = some (decide ((0 : Int) < (l.length : Nat)), EP p row tp ot pl fd pa st j .un .un .un)) →
      (∀ fd pa st j, den1 gLen (gVar k) (EP p row tp ot pl fd pa st j .un .un .un) = some (.t (.int (l.length : Nat)), EP p row tp ot pl fd pa st j .un .un .un)) →
      t1 = dSet 9 (dCallF 2 0 g__law_draw (dCons (den1 gLen (gVar k)) dNil)) →
      (∀ (fd : List T) (qs : List Pap) (st : L) (jn : Nat), GF fd → jn < l.length → qs.length < 100 → ∃ l' fd', Nm p l' ∧ l'.length = l.length ∧ GF fd' ∧ t2 (EP p row tp ot pl fd (.own (.lst (qs.map pT))) st (Z jn) .un .un .un) = some (.nx, EP p row tp ot pl fd' (.own (.lst ((qs ++ [mk l']).map pT))) st (Z jn) .un .un .un)) →
      ∀ (fd : List T) (qs : List Pap) (st j : L), GF fd → (∀ q ∈ qs, Gp p q) → qs.length < 100 → ∃ (fd' : List T) (qs' : List Pap) (j' : L), dIfS c (dSeq t1 t2) dNx (EP p row tp ot pl fd (.own (.lst (qs.map pT))) st j .un .un .un) = some (.nx, EP p row tp ot pl fd' (.own (.lst (qs'.map pT))) st j' .un .un .un) ∧ GF fd' ∧ (∀ q ∈ qs', Gp p q) ∧ qs'.length ≤ qs.length + 1 := by
    intro k c t1 t2 l mk hl hlz hmk hc hlen ht1 ht2 fd qs st j hf hq hz
    have c1 := hc fd (.own (.lst (qs.map pT))) st j
    by_cases h0 : (0 : Int) < (l.length : Nat)
    · rw [decide_eq_true h0] at c1
      obtain ⟨v, fd1, e, hv, g⟩ := drw (i := 0) (da := dCons (den1 gLen (gVar k)) dNil) (ρ := EP p row tp ot pl fd (.own (.lst (qs.map pT))) st j .un .un .un) (m := (l.length : Nat)) rfl (dCons_eq (da := dNil) (hlen _ _ _ _) rfl rfl) rfl hf (by omega) (by omega)
      obtain ⟨l', fd2, m1, m2, g2, e2⟩ := ht2 fd1 qs st v g (by omega) hz
      refine ⟨fd2, qs ++ [mk l'], Z v, ?_, g2, fun q hq' => ?_, by simp⟩
      · rw [dIfS_t c1, ht1]
        have s : dSet 9 (dCallF 2 0 g__law_draw (dCons (den1 gLen (gVar k)) dNil)) (EP p row tp ot pl fd (.own (.lst (qs.map pT))) st j .un .un .un) = some (.nx, EP p row tp ot pl fd1 (.own (.lst (qs.map pT))) st (Z v) .un .un .un) := dSet_t (i := 9) e (show 9 < 13 by decide)
        rw [dSeq_nx s]
        exact e2
      · rcases List.mem_append.mp hq' with h | h
        · exact hq q h
        · rw [List.mem_singleton.mp h]; exact hmk l' m1 m2
    · rw [decide_eq_false h0] at c1
      exact ⟨fd, qs, j, by rw [dIfS_f c1]; rfl, hf, hq, by omega⟩
  have app : ∀ (d : Den) (E E' : REnv) (qs : List Pap) (q : Pap), d E = some (.t (pT q), E') → isOwnL E 7 = true → E'[7]? = some (.own (.lst (qs.map pT))) → qs.length < 100 → dDrop (dMeth 7 fAppend (dCons d dNil)) E = some (.nx, E'.set 7 (.own (.lst ((qs ++ [q]).map pT)))) := fun d E E' qs q hd ho h7 hz => by
    have := meth_app (i := 7) (da := dCons d dNil) ho (dCons_eq (da := dNil) hd rfl rfl) h7 (by rw [List.length_map]; exact Nat.lt_of_lt_of_le hz (by decide))
    rw [show qs.map pT ++ [pT q] = (qs ++ [q]).map pT by simp] at this
    exact this
  obtain ⟨fd1, qs1, j1, e1, g1, q1, z1⟩ := step 4 b__law_papers_hold_1 t__law_papers_hold_4 t__law_papers_hold_5 tp (fun l' => (l', ot, pl)) n1 h1 (fun l' m1 m2 => ⟨m1, n2, by show l'.length ≤ 60; omega, by show ot.length ≤ 60; omega⟩)
    (fun fd pa st j => dBl_eq (den2_eq (g := gB gGt) (den1_eq (d := gVar 4) (l1 := .t (.lst (ii tp))) (ρ := EP p row tp ot pl fd pa st j .un .un .un) (ρ1 := EP p row tp ot pl fd pa st j .un .un .un) rfl (gLen_l _ tp)) (d2 := gC (.int 0)) (l2 := .t (.int 0)) (ρ2 := EP p row tp ot pl fd pa st j .un .un .un) rfl (gGt_i _ _ _)))
    (fun fd pa st j => den1_eq (d := gVar 4) (l1 := .t (.lst (ii tp))) (ρ := EP p row tp ot pl fd pa st j .un .un .un) (ρ1 := EP p row tp ot pl fd pa st j .un .un .un) rfl (gLen_l _ tp)) rfl
    (fun fd qs st jn hf hj hz => by
      obtain ⟨l', fd', e, m1, m2, g⟩ := chgL (row := row) (tp := tp) (ot := ot) (pl := pl) (pa := .own (.lst (qs.map pT))) (st := st) hp (k := 4) n1 hj (by omega) (fun _ => rfl) hf
      refine ⟨l', fd', m1, m2, g, ?_⟩
      exact app _ _ (EP p row tp ot pl fd' (.own (.lst (qs.map pT))) st (Z jn) .un .un .un) qs (l', ot, pl) (tup3 e rfl (l2 := .t (.lst (ii ot))) rfl rfl (l3 := .t (.int pl)) rfl rfl) rfl rfl hz) fd qs (.t (.int (i : Nat))) j hf hq (by omega)
  obtain ⟨fd2, qs2, j2, e2, g2, q2, z2⟩ := step 5 b__law_papers_hold_2 t__law_papers_hold_7 t__law_papers_hold_8 ot (fun l' => (tp, l', pl)) n2 h2 (fun l' m1 m2 => ⟨n1, m1, by show tp.length ≤ 60; omega, by show l'.length ≤ 60; omega⟩)
    (fun fd pa st j => dBl_eq (den2_eq (g := gB gGt) (den1_eq (d := gVar 5) (l1 := .t (.lst (ii ot))) (ρ := EP p row tp ot pl fd pa st j .un .un .un) (ρ1 := EP p row tp ot pl fd pa st j .un .un .un) rfl (gLen_l _ ot)) (d2 := gC (.int 0)) (l2 := .t (.int 0)) (ρ2 := EP p row tp ot pl fd pa st j .un .un .un) rfl (gGt_i _ _ _)))
    (fun fd pa st j => den1_eq (d := gVar 5) (l1 := .t (.lst (ii ot))) (ρ := EP p row tp ot pl fd pa st j .un .un .un) (ρ1 := EP p row tp ot pl fd pa st j .un .un .un) rfl (gLen_l _ ot)) rfl
    (fun fd qs st jn hf hj hz => by
      obtain ⟨l', fd', e, m1, m2, g⟩ := chgL (row := row) (tp := tp) (ot := ot) (pl := pl) (pa := .own (.lst (qs.map pT))) (st := st) hp (k := 5) n2 hj (by omega) (fun _ => rfl) hf
      refine ⟨l', fd', m1, m2, g, ?_⟩
      exact app _ _ (EP p row tp ot pl fd' (.own (.lst (qs.map pT))) st (Z jn) .un .un .un) qs (tp, l', pl) (tup3 (d1 := gVar 4) (l1 := .t (.lst (ii tp))) rfl rfl e rfl (l3 := .t (.int pl)) rfl rfl) rfl rfl hz) fd1 qs1 (.t (.int (i : Nat))) j1 g1 q1 (by omega)
  refine ⟨_, _, rfl, ?_, fd2, qs2, .t (.int (i : Nat)), j2, rfl, g2, q2, by omega⟩
  exact (dSeq_nx (d' := t__law_papers_hold_9) e1).trans e2
end
end LK
/-! papers judged -/
namespace LK
open PySem LW
open L2 (atI ixN)
open LR (FS Sm Nm Inv isRow dotR startF runF lensF showsB tapsB)
section
variable {p : Nat} {row tp ot : List Int} {pl : Int}
theorem ph_one (hp : BM.isP p) (hr : row.length ≤ 900) {q : Pap} (hq : Gp p q) {fd : List T} {st j : L} :
    l__law_papers_hold_2 (EP p row tp ot pl fd .un st j (.t (.lst (ii q.1))) (.t (.lst (ii q.2.1))) (.t (.int q.2.2))) = some (.nx, EP p row tp ot pl fd .un st j (.t (.lst (ii q.1))) (.t (.lst (ii q.2.1))) (.t (.int q.2.2))) := by
  have pp := hp.pos
  obtain ⟨n1, n2, z1, z2⟩ := hq
  let R := EP p row tp ot pl fd .un st j (.t (.lst (ii q.1))) (.t (.lst (ii q.2.1))) (.t (.int q.2.2))
  have l1 : dBl (den2 (gB gLe) (den1 gLen (gVar 10)) (gC (.int 20))) R = some (decide (((q.1.length : Nat) : Int) ≤ 20), R) := dBl_eq (den2_eq (g := gB gLe) (den1_eq (d := gVar 10) (l1 := .t (.lst (ii q.1))) (ρ := R) (ρ1 := R) rfl (gLen_l _ q.1)) (d2 := gC (.int 20)) (l2 := .t (.int 20)) (ρ2 := R) rfl rfl)
  have l2 : dBl (den2 (gB gLe) (den1 gLen (gVar 11)) (gC (.int 20))) R = some (decide (((q.2.1.length : Nat) : Int) ≤ 20), R) := dBl_eq (den2_eq (g := gB gLe) (den1_eq (d := gVar 11) (l1 := .t (.lst (ii q.2.1))) (ρ := R) (ρ1 := R) rfl (gLen_l _ q.2.1)) (d2 := gC (.int 20)) (l2 := .t (.int 20)) (ρ2 := R) rfl rfl)
  have b3 : b__law_papers_hold_3 R = some (decide (((q.1.length : Nat) : Int) ≤ 20) && decide (((q.2.1.length : Nat) : Int) ≤ 20), R) := by
    unfold b__law_papers_hold_3
    cases h : decide (((q.1.length : Nat) : Int) ≤ 20) with
    | true => rw [h] at l1; simp only [dAnd, l1, l2, Option.bind_some, if_true, Bool.true_and]
    | false => rw [h] at l1; simp only [dAnd, l1, Option.bind_some, Bool.false_eq_true, if_false, Bool.false_and]
  cases hb : (decide (((q.1.length : Nat) : Int) ≤ 20) && decide (((q.2.1.length : Nat) : Int) ≤ 20)) with
  | false =>
    rw [hb] at b3
    exact (dIfS_f (c := b__law_papers_hold_3) (d := t__law_papers_hold_12) (d' := dNx) b3).trans rfl
  | true =>
    rw [hb] at b3
    rw [Bool.and_eq_true] at hb
    have g1 := of_decide_eq_true hb.1
    have g2 := of_decide_eq_true hb.2
    have e1 := LR.ev_shows (p := (p : Int)) (row := row) (taps := q.1) (other := q.2.1) (a := q.2.2) (by omega) (by omega) hr (by omega) (by omega)
    have e2 := ev_shown (p := (p : Int)) (row := row) (taps := q.1) (other := q.2.1) (a := q.2.2) (by omega) (n1.sm hp) (n2.sm hp) hr (by omega) (by omega)
    rw [← shows_shown (row := row) (a := q.2.2) n1 n2 (by omega) (by omega)] at e2
    have c1 : dCallP 5 f_shows_least_register (dCons (gVar 1) (dCons (gVar 2) (dCons (den1 gList (gVar 10)) (dCons (den1 gList (gVar 11)) (dCons (gVar 12) dNil))))) R = some (.t (.bl (showsB p row q.1 q.2.1 q.2.2)), R) :=
      dCallP_eq (ts := [.int (p : Nat), .lst (ii row), .lst (ii q.1), .lst (ii q.2.1), .int q.2.2]) rfl rfl (by rw [e_shows]; exact e1) rfl
    have c2 : dCallP 5 f__law_shown (dCons (gVar 1) (dCons (gVar 2) (dCons (gVar 10) (dCons (gVar 11) (dCons (gVar 12) dNil))))) R = some (.t (.bl (showsB p row q.1 q.2.1 q.2.2)), R) :=
      dCallP_eq (ts := [.int (p : Nat), .lst (ii row), .lst (ii q.1), .lst (ii q.2.1), .int q.2.2]) rfl rfl e2 rfl
    have c3 : b__law_papers_hold_4 R = some (false, R) := dNot_t (dTru_b (dCallP_eq (n := 2) (f := f__law_same 5) (ts := [.bl (showsB p row q.1 q.2.1 q.2.2), .bl (showsB p row q.1 q.2.1 q.2.2)]) (dCons_eq c1 rfl (dCons_eq c2 rfl rfl)) rfl (same_bl _) rfl))
    exact (dIfS_t (c := b__law_papers_hold_3) (d := t__law_papers_hold_12) (d' := dNx) b3).trans ((dIfS_f (c := b__law_papers_hold_4) (d := t__law_papers_hold_11) (d' := dNx) c3).trans rfl)
theorem ph14 (hp : BM.isP p) (hr : row.length ≤ 900) {qs : List Pap} (hq : ∀ q ∈ qs, Gp p q) {fd : List T} {st j : L} :
    ∃ a b c, t__law_papers_hold_14 (EP p row tp ot pl fd (.own (.lst (qs.map pT))) st j .un .un .un) = some (.nx, EP p row tp ot pl fd (.own (.lst (qs.map pT))) st j a b c) := by
  obtain ⟨ρ', hf, a, b, c, rfl⟩ := forL_ix (g := gTupT 3 (gConsT (gNameT 10) (gConsT (gNameT 11) (gConsT (gNameT 12) gNilT)))) (db := l__law_papers_hold_2) (t := pT) (fun _ ρ => ∃ a b c, ρ = EP p row tp ot pl fd .un st j a b c) qs 0 (fun i q ρ hqi hI => by
    obtain ⟨a, b, c, rfl⟩ := hI
    have hm : q ∈ qs := List.mem_of_getElem? hqi
    exact ⟨EP p row tp ot pl fd .un st j (.t (.lst (ii q.1))) (.t (.lst (ii q.2.1))) (.t (.int q.2.2)), _, rfl, ph_one hp hr (hq q hm), _, _, _, rfl⟩) (EP p row tp ot pl fd .un st j .un .un .un) ⟨.un, .un, .un, rfl⟩
  exact ⟨a, b, c, (dFor_h (as := [10, 11, 12]) (src := iSeq (gVar 7)) (ρ := EP p row tp ot pl fd (.own (.lst (qs.map pT))) st j .un .un .un) (ρ1 := EP p row tp ot pl fd (.own (.lst (qs.map pT))) st j .un .un .un) (xs := qs.map pT) (j := 7) rfl rfl hf).trans rfl⟩
def odd6 (tp ot : List Int) (pl : Int) : List T := [.tup [.non, .lst (ii ot), .int pl], .tup [.tup (ii tp), .lst (ii ot), .int pl], .tup [.lst (ii tp), .non, .int pl], .tup [.lst (ii tp), .tup (ii ot), .int pl], .tup [.lst (ii tp), .lst (ii ot), .non], .tup [.lst (ii tp), .lst (ii ot), .lst [.int pl]]]
theorem ph_odd {x y z : T} {fd : List T} {pa st j : L} (h : LR.f_shows_least_register [.int (p : Nat), .lst (ii row), x, y, z] = some (.t (.bl false))) :
    l__law_papers_hold_3 (EP p row tp ot pl fd pa st j (.t x) (.t y) (.t z)) = some (.nx, EP p row tp ot pl fd pa st j (.t x) (.t y) (.t z)) := by
  let R := EP p row tp ot pl fd pa st j (.t x) (.t y) (.t z)
  have c : dCallP 5 f_shows_least_register (dCons (gVar 1) (dCons (gVar 2) (dCons (gVar 10) (dCons (gVar 11) (dCons (gVar 12) dNil))))) R = some (.t (.bl false), R) :=
    dCallP_eq (ts := [.int (p : Nat), .lst (ii row), x, y, z]) rfl rfl (by rw [e_shows]; exact h) rfl
  have b : b__law_papers_hold_5 R = some (false, R) := dBl_eq (den2_eq (g := gB gIsNot) c (d2 := gC (.bl false)) (l2 := .t (.bl false)) (ρ2 := R) rfl rfl)
  exact (dIfS_f (c := b__law_papers_hold_5) (d := t__law_papers_hold_15) (d' := dNx) b).trans rfl
theorem ph17 (h1 : tp.length ≤ 50) (h2 : ot.length ≤ 50) {fd : List T} {pa st j a b c : L} :
    ∃ a' b' c', t__law_papers_hold_17 (EP p row tp ot pl fd pa st j a b c) = some (.nx, EP p row tp ot pl fd pa st j a' b' c') := by
  let E := EP p row tp ot pl fd pa st j a b c
  have t1 := LR.ev_are_taps (p := (p : Int)) (l := tp) (by omega)
  have t2 := LR.ev_are_taps (p := (p : Int)) (l := ot) (by omega)
  obtain ⟨ρ', hf, a', b', c', rfl⟩ := forL_ix (g := gTupT 3 (gConsT (gNameT 10) (gConsT (gNameT 11) (gConsT (gNameT 12) gNilT)))) (db := l__law_papers_hold_3) (t := fun x : T => x) (fun _ ρ => ∃ a b c, ρ = EP p row tp ot pl fd pa st j a b c) (odd6 tp ot pl) 0 (fun i q ρ hqi hI => by
    obtain ⟨a, b, c, rfl⟩ := hI
    have hm : q ∈ odd6 tp ot pl := List.mem_of_getElem? hqi
    simp only [odd6, List.mem_cons, List.not_mem_nil, or_false] at hm
    rcases hm with rfl | rfl | rfl | rfl | rfl | rfl
    · exact ⟨_, _, rfl, ph_odd (LR.sh_x LR.ev_are_taps_n), _, _, _, rfl⟩
    · exact ⟨_, _, rfl, ph_odd (LR.sh_x (LR.ev_are_taps_t _)), _, _, _, rfl⟩
    · exact ⟨_, _, rfl, ph_odd (LR.sh_y t1 LR.ev_are_taps_n), _, _, _, rfl⟩
    · exact ⟨_, _, rfl, ph_odd (LR.sh_y t1 (LR.ev_are_taps_t _)), _, _, _, rfl⟩
    · exact ⟨_, _, rfl, ph_odd (LR.sh_z t1 t2 (LR.ev_between_n _ _)), _, _, _, rfl⟩
    · exact ⟨_, _, rfl, ph_odd (LR.sh_z t1 t2 (LR.ev_between_l _ _ _)), _, _, _, rfl⟩) E ⟨a, b, c, rfl⟩
  rw [List.map_id'] at hf
  have T4 : gVar 4 E = some (.t (.lst (ii tp)), E) := rfl
  have T5 : gVar 5 E = some (.t (.lst (ii ot)), E) := rfl
  have T6 : gVar 6 E = some (.t (.int pl), E) := rfl
  have tu : ∀ {d1 d2 d3 : Den} {l1 l2 l3 : L} {x y z : T}, d1 E = some (l1, E) → l1.tree = some x → d2 E = some (l2, E) → l2.tree = some y → d3 E = some (l3, E) → l3.tree = some z → dTup (dCons d1 (dCons d2 (dCons d3 dNil))) E = some (.t (.tup [x, y, z]), E) := fun h1 e1 h2 e2 h3 e3 => dTup_eq (dCons_eq h1 e1 (dCons_eq h2 e2 (dCons_eq (da := dNil) h3 e3 rfl))) (show (3 : Nat) ≤ line by decide)
  have N : gC .non E = some (.t .non, E) := rfl
  have U4 : den1 gTuple (gVar 4) E = some (.t (.tup (ii tp)), E) := rfl
  have U5 : den1 gTuple (gVar 5) E = some (.t (.tup (ii ot)), E) := rfl
  have L6 : dLst (dCons (gVar 6) dNil) E = some (.own (.lst [.int pl]), E) := dLst_eq (ts := [.int pl]) rfl (show (1 : Nat) ≤ line by decide)
  have dl := dLst_eq (ts := odd6 tp ot pl) (dCons_eq (tu N rfl T5 rfl T6 rfl) rfl (dCons_eq (tu U4 rfl T5 rfl T6 rfl) rfl (dCons_eq (tu T4 rfl N rfl T6 rfl) rfl (dCons_eq (tu T4 rfl U5 rfl T6 rfl) rfl (dCons_eq (tu T4 rfl T5 rfl N rfl) rfl (dCons_eq (da := dNil) (tu T4 rfl T5 rfl L6 rfl) rfl rfl)))))) (show (6 : Nat) ≤ line by decide)
  refine ⟨a', b', c', dFor_eq (as := [10, 11, 12]) ?_ hf⟩
  simp only [iSeq, dl, Option.bind_some]
  rfl
theorem showsB_x {p : Int} {row taps other : List Int} {a : Int} (h : tapsB p taps = false) : showsB p row taps other a = false := by
  unfold showsB; rw [h]; rfl
theorem showsB_y {p : Int} {row taps other : List Int} {a : Int} (h : tapsB p other = false) : showsB p row taps other a = false := by
  unfold showsB; rw [h]; cases tapsB p taps <;> rfl
theorem tapsB_f {p : Int} {l : List Int} {x : Int} (hx : x ∈ l) (h : ¬ (0 ≤ x ∧ x ≤ p - 1)) : tapsB p l = false := by
  unfold tapsB
  rw [Bool.and_eq_false_iff]
  left
  rw [List.all_eq_false]
  refine ⟨x, hx, ?_⟩
  rw [Bool.and_eq_true]
  exact fun z => h ⟨of_decide_eq_true z.1, of_decide_eq_true z.2⟩
theorem ph18 (hp : BM.isP p) (hr : row.length ≤ 900) (h1 : tp.length ≤ 50) (h2 : ot.length ≤ 50) {fd : List T} {pa st j a b c : L} :
    t__law_papers_hold_18 (EP p row tp ot pl fd pa st j a b c) = some (.ret (.t (.bl true)), EP p row tp ot pl fd pa st j a b c) := by
  have pp := hp.pos
  let E := EP p row tp ot pl fd pa st j a b c
  have T4 : gVar 4 E = some (.t (.lst (ii tp)), E) := rfl
  have T5 : gVar 5 E = some (.t (.lst (ii ot)), E) := rfl
  have T6 : gVar 6 E = some (.t (.int pl), E) := rfl
  have e4 := add0 T4 (d := gVar 1) (x := .int (p : Nat)) (dLst_eq (ts := [.int (p : Nat)]) rfl (show (1 : Nat) ≤ line by decide)) (by omega)
  have e5 := add0 T5 (d := den2 gSub (gC (.int 0)) (gC (.int 1))) (x := .int (0 - 1)) (dLst_eq (ts := [.int (0 - 1)]) rfl (show (1 : Nat) ≤ line by decide)) (by omega)
  rw [ii_app] at e4 e5
  have a6 : den2 gAdd (gVar 6) (gC (.int 1)) E = some (.t (.int (pl + 1)), E) := den2_eq T6 (l2 := .t (.int 1)) (ρ2 := E) rfl rfl
  have s1 := LR.ev_shows (p := (p : Int)) (row := row) (taps := tp ++ [(p : Int)]) (other := ot) (a := pl) (by omega) (by omega) hr (by simp; omega) (by omega)
  rw [showsB_x (tapsB_f (x := (p : Int)) (by simp) (by omega))] at s1
  have s2 := LR.ev_shows (p := (p : Int)) (row := row) (taps := tp) (other := ot ++ [0 - 1]) (a := pl + 1) (by omega) (by omega) hr (by omega) (by simp; omega)
  rw [showsB_y (tapsB_f (x := 0 - 1) (by simp) (by omega))] at s2
  have c1 : dCallP 5 f_shows_least_register (dCons (gVar 1) (dCons (gVar 2) (dCons (den2 gAdd (gVar 4) (dLst (dCons (gVar 1) dNil))) (dCons (gVar 5) (dCons (gVar 6) dNil))))) E = some (.t (.bl false), E) :=
    dCallP_eq (dCons_eq (l := .t (.int (p : Nat))) (ρ1 := E) rfl rfl (dCons_eq (l := .t (.lst (ii row))) (ρ1 := E) rfl rfl (dCons_eq e4 rfl (dCons_eq T5 rfl (dCons_eq (da := dNil) T6 rfl rfl))))) rfl (by rw [e_shows]; exact s1) rfl
  have c2 : dCallP 5 f_shows_least_register (dCons (gVar 1) (dCons (gVar 2) (dCons (gVar 4) (dCons (den2 gAdd (gVar 5) (dLst (dCons (den2 gSub (gC (.int 0)) (gC (.int 1))) dNil))) (dCons (den2 gAdd (gVar 6) (gC (.int 1))) dNil))))) E = some (.t (.bl false), E) :=
    dCallP_eq (dCons_eq (l := .t (.int (p : Nat))) (ρ1 := E) rfl rfl (dCons_eq (l := .t (.lst (ii row))) (ρ1 := E) rfl rfl (dCons_eq T4 rfl (dCons_eq e5 rfl (dCons_eq (da := dNil) a6 rfl rfl))))) rfl (by rw [e_shows]; exact s2) rfl
  have d1 : den2 (gB gIs) (dCallP 5 f_shows_least_register (dCons (gVar 1) (dCons (gVar 2) (dCons (den2 gAdd (gVar 4) (dLst (dCons (gVar 1) dNil))) (dCons (gVar 5) (dCons (gVar 6) dNil)))))) (gC (.bl false)) E = some (.t (.bl true), E) := den2_eq c1 (l2 := .t (.bl false)) (ρ2 := E) rfl rfl
  have d2 : den2 (gB gIs) (dCallP 5 f_shows_least_register (dCons (gVar 1) (dCons (gVar 2) (dCons (gVar 4) (dCons (den2 gAdd (gVar 5) (dLst (dCons (den2 gSub (gC (.int 0)) (gC (.int 1))) dNil))) (dCons (den2 gAdd (gVar 6) (gC (.int 1))) dNil)))))) (gC (.bl false)) E = some (.t (.bl true), E) := den2_eq c2 (l2 := .t (.bl false)) (ρ2 := E) rfl rfl
  exact dRet_eq (LR.dAndV_t d1 d2)
theorem ev_papers (hp : BM.isP p) (n1 : Nm p tp) (n2 : Nm p ot) (h1 : tp.length ≤ 50) (h2 : ot.length ≤ 50) (hr : row.length ≤ 900) {fd : List T} (hf : GF fd) :
    ∃ fd', g__law_papers_hold fd [.int (p : Nat), .lst (ii row), pT (tp, ot, pl)] = some (.t (.bl true), fd') ∧ GF fd' := by
  have pp := hp.pos
  let E0 : REnv := E__law_papers_hold (.own (.lst fd)) (.t (.int (p : Nat))) (.t (.lst (ii row))) (.t (pT (tp, ot, pl))) .un .un .un .un .un .un .un .un .un
  have s1 : t__law_papers_hold_1 E0 = some (.nx, EP p row tp ot pl fd .un .un .un .un .un .un) := dAsg_eq (d := gVar 3) (ρ := E0) (ρ1 := E0) (l := .t (pT (tp, ot, pl))) rfl rfl rfl
  have s2 := ph2 (p := p) (row := row) (pl := pl) (fd := fd) h1 h2
  have s3 := ph3 (p := p) (row := row) (pl := pl) (fd := fd) h1 h2
  have nz : Nm p [0] := LR.Nm.one ⟨by decide, by omega⟩
  have hg : ∀ q ∈ base5 tp ot pl ++ more5 row tp ot pl, Gp p q := by
    intro q hq
    simp only [base5, more5, List.cons_append, List.nil_append, List.mem_cons, List.not_mem_nil, or_false] at hq
    rcases hq with rfl | rfl | rfl | rfl | rfl | rfl | rfl | rfl | rfl | rfl
    · exact ⟨n1, n2, by show tp.length ≤ 60; omega, by show ot.length ≤ 60; omega⟩
    · exact ⟨n1.app nz, n2, by show (tp ++ [0]).length ≤ 60; simp; omega, by show ot.length ≤ 60; omega⟩
    · exact ⟨n1, n2.app nz, by show tp.length ≤ 60; omega, by show (ot ++ [0]).length ≤ 60; simp; omega⟩
    · exact ⟨n1, n2, by show tp.length ≤ 60; omega, by show ot.length ≤ 60; omega⟩
    · exact ⟨n1, n2, by show tp.length ≤ 60; omega, by show ot.length ≤ 60; omega⟩
    · exact ⟨n2, n1, by show ot.length ≤ 60; omega, by show tp.length ≤ 60; omega⟩
    · exact ⟨fun y hy => n1 y (List.mem_of_mem_drop hy), n2, by show (tp.drop 1).length ≤ 60; simp; omega, by show ot.length ≤ 60; omega⟩
    · exact ⟨n1, LR.Nm.nil, by show tp.length ≤ 60; omega, Nat.zero_le _⟩
    · exact ⟨LR.Nm.nil, LR.Nm.nil, Nat.zero_le _, Nat.zero_le _⟩
    · exact ⟨n1, n1, by show tp.length ≤ 60; omega, by show tp.length ≤ 60; omega⟩
  obtain ⟨ρ', hfl, fd1, qs, st, j, rfl, g1, q1, z1⟩ := forL_range (g := gNameT 8) (db := l__law_papers_hold_1) (PI p row tp ot pl) 3 (fun i ρ hi hI => ph_turn hp n1 n2 h1 h2 hi hI) (EP p row tp ot pl fd (.own (.lst ((base5 tp ot pl ++ more5 row tp ot pl).map pT))) .un .un .un .un .un) ⟨fd, _, .un, .un, rfl, hf, hg, by simp [base5, more5]⟩
  have s10 : t__law_papers_hold_10 (EP p row tp ot pl fd (.own (.lst ((base5 tp ot pl ++ more5 row tp ot pl).map pT))) .un .un .un .un .un) = some (.nx, EP p row tp ot pl fd1 (.own (.lst (qs.map pT))) st j .un .un .un) := dFor_eq (as := [8, 9, 9]) (iRange1_eq (d := gC (.int 3)) (n := 3) rfl (by omega)) hfl
  obtain ⟨a, b, c, s14⟩ := ph14 (p := p) (row := row) (tp := tp) (ot := ot) (pl := pl) hp hr q1 (fd := fd1) (st := st) (j := j)
  obtain ⟨a', b', c', s17⟩ := ph17 (p := p) (row := row) (tp := tp) (ot := ot) (pl := pl) h1 h2 (fd := fd1) (pa := .own (.lst (qs.map pT))) (st := st) (j := j) (a := a) (b := b) (c := c)
  have s18 := ph18 (p := p) (row := row) (tp := tp) (ot := ot) (pl := pl) hp hr h1 h2 (fd := fd1) (pa := .own (.lst (qs.map pT))) (st := st) (j := j) (a := a') (b := b') (c := c')
  have hd : d__law_papers_hold E0 = some (.ret (.t (.bl true)), EP p row tp ot pl fd1 (.own (.lst (qs.map pT))) st j a' b' c') := by
    unfold d__law_papers_hold
    rw [dSeq_nx s1, dSeq_nx s2, dSeq_nx s3, dSeq_nx s10, dSeq_nx s14, dSeq_nx s17]
    exact s18
  exact ⟨fd1, bodyF_t (n := 4) (m := 13) (as := [4, 5, 6, 7, 7, 8, 9, 9, 10, 11, 12, 10, 11, 12]) (d := d__law_papers_hold) rfl hd rfl, g1⟩
end
end LK
/-! the law itself -/
namespace LK
open PySem LW
open L2 (atI ixN)
open LR (FS Sm Nm Inv isRow dotR startF runF lensF showsB tapsB finT)
section
variable {p : Nat} {row : List Int}
theorem isRow_iff (hp : 0 < p) (hN : Nm p row) {l : List Int} : isRow p l row = true ↔ BM.Fol p (BM.g row) (BM.g l) l.length row.length := by
  unfold isRow
  rw [List.all_eq_true]
  have key : ∀ m, l.length ≤ m → m < row.length → (dotR l (row.take m) % (p : Int) = row.getD m 0 ↔ (p : Int) ∣ BM.dot (BM.g l) (BM.g row) l.length m - BM.g row m) := fun m h1 h2 => by
    rw [dot_take (by omega) h1]
    have hb := hN.get hp m
    constructor
    · intro e
      have := BM.emod_dvd (BM.dot (BM.g l) (BM.g row) l.length m) p
      rw [e, ← Int.dvd_neg] at this
      rwa [show -(row.getD m 0 - BM.dot (BM.g l) (BM.g row) l.length m) = BM.dot (BM.g l) (BM.g row) l.length m - BM.g row m by simp only [BM.g]; omega] at this
    · intro h
      have h0 := Int.emod_eq_zero_of_dvd h
      have := (Int.emod_eq_emod_iff_emod_sub_eq_zero).mpr h0
      rw [this]
      exact Int.emod_eq_of_lt hb.1 hb.2
  constructor
  · intro h m h1 h2
    have := h (m - l.length) (by simp; omega)
    rw [show l.length + (m - l.length) = m by omega] at this
    exact (key m h1 h2).mp (of_decide_eq_true this)
  · intro h i hi
    have hi : i < row.length - l.length := by simpa using hi
    exact decide_eq_true ((key _ (by omega) (by omega)).mpr (h _ (by omega) (by omega)))
theorem told_shown (hp : BM.isP p) {s : FS} (I : Inv p s) (e : s.row = row) (hz : row.length ≤ 900) : shownB p row s.taps s.bef s.pl = true := by
  have pp := hp.pos
  have hN : Nm p row := e ▸ I.rw
  have hR : isRow p s.taps row = true := (isRow_iff (by omega) hN).mpr (by have := I.fo; rwa [e] at this)
  unfold shownB
  rcases I.ca with ⟨c1, c2, c3, c4⟩ | ⟨a, c1, c2, c3, c4, c5, c6, c7, c8⟩
  · have hf : (row.filter fun x => decide (x ≠ 0)).length = 0 := by
      rw [List.filter_eq_nil_iff.mpr]
      · rfl
      · intro x hx
        have : x = 0 := c4 x (e ▸ hx)
        simp [this]
    rw [if_pos hf, c1, c2, c3]; rfl
  · rw [e] at c2 c4 c5
    have hf : ¬ (row.filter fun x => decide (x ≠ 0)).length = 0 := by
      intro z
      have hz' : ∀ x ∈ row, x = 0 := fun x hx => by
        have := List.filter_eq_nil_iff.mp (List.eq_nil_of_length_eq_zero z) x hx
        simpa using this
      have gz : ∀ i, BM.g row i = 0 := fun i => by
        show row.getD i 0 = 0
        by_cases hi : i < row.length
        · rw [List.getD_eq_getElem?_getD, List.getElem?_eq_getElem hi]; exact hz' _ (List.getElem_mem hi)
        · rw [List.getD_eq_getElem?_getD, List.getElem?_eq_none (by omega)]; rfl
      have : BM.dot (BM.g s.bef) (BM.g row) s.bef.length a = 0 := BM.sm_zero fun j _ => by rw [gz]; simp
      rw [gz, this] at c5
      have : (p : Int) ∣ s.off := by rw [← Int.dvd_neg]; rwa [show -s.off = 0 - 0 - s.off by omega]
      have := Int.le_of_dvd c6 this
      omega
    have hle : s.taps.length ≤ row.length := e ▸ I.le
    have er : (!isRow p s.taps row || (decide (s.pl < 0) || (decide ((row.length : Int) ≤ s.pl) || (!decide (s.pl + 1 - s.bef.length = s.taps.length) || decide ((row.length : Int) < s.taps.length))))) = false := by
      rw [hR, c1, decide_eq_false (show ¬ ((a : Nat) : Int) < 0 by omega), decide_eq_false (show ¬ (row.length : Int) ≤ (a : Nat) by omega), decide_eq_true (show ((a : Nat) : Int) + 1 - s.bef.length = s.taps.length by omega), decide_eq_false (show ¬ (row.length : Int) < s.taps.length by omega)]; rfl
    rw [if_neg hf, er, if_neg Bool.false_ne_true, c1, Int.toNat_natCast, show (((a : Nat) : Int) + 1).toNat = a + 1 from rfl]
    have nt : ∀ m, Nm p (row.take m) := fun m x hx => hN x (List.mem_of_mem_take hx)
    have r1 : isRow p s.bef (row.take a) = true := (isRow_iff (by omega) (nt a)).mpr (by
      rw [List.length_take, Nat.min_eq_left (by omega)]
      exact LR.Fol_congr (fun m hm => (take_g hm).symm) c4)
    have r2 : isRow p s.bef (row.take (a + 1)) = false := by
      cases h : isRow p s.bef (row.take (a + 1)) with
      | false => rfl
      | true =>
        have f := (isRow_iff (by omega) (nt (a + 1))).mp h
        rw [List.length_take, Nat.min_eq_left (by omega)] at f
        have f' := LR.Fol_congr (fun m hm => take_g hm) f
        have := f' a c3 (by omega)
        exact (LR.not_dvd (y := BM.dot (BM.g s.bef) (BM.g row) s.bef.length a - BM.g row a) c5 c6 c7 (by omega) this).elim
    rw [r1, r2, decide_eq_true (show (s.bef.length : Int) ≤ (a : Nat) by omega)]; rfl
end
def A (ns : List Int) (fd : List T) (turn p row kept told lengths size taps begun many : L) : REnv := E_law (.t (.lkl (ii ns))) (.own (.lst fd)) turn p row kept told lengths size taps begun many
theorem lw_p {ns : List Int} {fd : List T} (hf : GF fd) {i : Nat} (hi : i < 3) {a b c d e f g h j : L} : ∃ p fd', BM.isP p ∧ GF fd' ∧ t_law_2 (A ns fd (Z i) a b c d e f g h j) = some (.nx, A ns fd' (Z i) (Z p) b c d e f g h j) := by
  let E (fd : List T) := A ns fd (Z i) a b c d e f g h j
  obtain ⟨v, fd', e1, hv, g1⟩ := drw (i := 1) (da := dCons (gC (.int 4)) dNil) (ρ := E fd) (m := 4) rfl rfl rfl hf (by decide) (by decide)
  have s1 := den2_eq (g := gAdd) (d1 := gVar 2) (l1 := Z i) (ρ := E fd) (ρ1 := E fd) rfl e1 (l := .t (.int ((i : Int) + (v : Nat)))) rfl
  have s2 := den2_eq (g := gMod) (den1_eq (g := gInt) s1 (gInt_i _ _)) (d2 := gC (.int 4)) (l2 := .t (.int 4)) (ρ2 := E fd') rfl (gMod_e _ (by decide))
  have hk : (i + v) % 4 = 0 ∨ (i + v) % 4 = 1 ∨ (i + v) % 4 = 2 ∨ (i + v) % 4 = 3 := by omega
  rw [show ((i : Int) + (v : Nat)) % 4 = (((i + v) % 4 : Nat) : Int) by omega] at s2
  have dl : dLst (dCons (gC (.int 2)) (dCons (gC (.int 3)) (dCons (gC (.int 5)) (dCons (gC (.int 7)) dNil)))) (E fd) = some (.own (.lst [.int 2, .int 3, .int 5, .int 7]), E fd) := dLst_eq (ts := [.int 2, .int 3, .int 5, .int 7]) rfl (show (4 : Nat) ≤ line by decide)
  have fin : ∀ q : Nat, BM.isP q → atI [T.int 2, .int 3, .int 5, .int 7] (((i + v) % 4 : Nat) : Int) = some (.int (q : Nat)) → ∃ p fd', BM.isP p ∧ GF fd' ∧ t_law_2 (A ns fd (Z i) a b c d e f g h j) = some (.nx, A ns fd' (Z i) (Z p) b c d e f g h j) := fun q hq hx =>
    ⟨q, fd', hq, g1, dSet_t (i := 3) (den2_eq dl s2 (gIx_n _ hx)) (show 3 < 12 by decide)⟩
  rcases hk with hk | hk | hk | hk <;> rw [hk] at fin
  · exact fin 2 (.inl rfl) (L2.atI_nat rfl)
  · exact fin 3 (.inr (.inl rfl)) (L2.atI_nat rfl)
  · exact fin 5 (.inr (.inr (.inl rfl))) (L2.atI_nat rfl)
  · exact fin 7 (.inr (.inr (.inr rfl))) (L2.atI_nat rfl)
theorem lw_turn {ns : List Int} {fd : List T} (hf : GF fd) {i : Nat} (hi : i < 3) {x0 x1 x2 x3 x4 x5 x6 x7 x8 : L} :
    ∃ fd' y0 y1 y2 y3 y4 y5 y6 y7 y8, l_law_1 (A ns fd (Z i) x0 x1 x2 x3 x4 x5 x6 x7 x8) = some (.nx, A ns fd' (Z i) y0 y1 y2 y3 y4 y5 y6 y7 y8) ∧ GF fd' := by
  obtain ⟨p, fd1, hp, g1, s2⟩ := lw_p (ns := ns) hf hi (a := x0) (b := x1) (c := x2) (d := x3) (e := x4) (f := x5) (g := x6) (h := x7) (j := x8)
  have pp := hp.pos
  obtain ⟨row, fd2, er, hN, hz, g2⟩ := ev_law_drawn_row hp g1
  let P : L := Z p
  let RO : L := .own (.lst (ii row))
  let RT : L := .t (.lst (ii row))
  have s3 : t_law_3 (A ns fd1 (Z i) P x1 x2 x3 x4 x5 x6 x7 x8) = some (.nx, A ns fd2 (Z i) P RO x2 x3 x4 x5 x6 x7 x8) :=
    dSet_o (i := 4) (callF (i := 1) (g := g__law_row) (da := dCons (dFrz 3) dNil) (ρ := A ns fd1 (Z i) P x1 x2 x3 x4 x5 x6 x7 x8) (ρ1 := A ns fd1 (Z i) P x1 x2 x3 x4 x5 x6 x7 x8) rfl rfl rfl er rfl) (show 4 < 12 by decide)
  have s4 : t_law_4 (A ns fd2 (Z i) P RO x2 x3 x4 x5 x6 x7 x8) = some (.nx, A ns fd2 (Z i) P RO RO x3 x4 x5 x6 x7 x8) :=
    dSet_o (i := 5) (den1_eq (d := gVar 4) (l1 := .ref 4) (ρ := A ns fd2 (Z i) P RO x2 x3 x4 x5 x6 x7 x8) (ρ1 := A ns fd2 (Z i) P RO x2 x3 x4 x5 x6 x7 x8) rfl rfl) (show 5 < 12 by decide)
  obtain ⟨s, hrun, I, es⟩ := LR.Inv.run hp row (startF p) LR.Inv.start (by show 0 + row.length < 900; omega) hN
  have es : s.row = row := es
  have I_le : s.taps.length ≤ 40 := by have := I.le; rw [es] at this; omega
  have I_bl : s.bef.length ≤ 40 := by
    rcases I.ca with ⟨_, _, c3, _⟩ | ⟨a, _, c2, c3, _⟩
    · rw [c3]; exact Nat.zero_le _
    · rw [es] at c2; omega
  obtain ⟨r, hlens, lr, hat⟩ := LR.Inv.lens hp row (startF p) LR.Inv.start (by show 0 + row.length < 900; omega) hN
  have LE_ : Lens p row r := ⟨lr, fun m hm => by
    obtain ⟨si, J, e, gq⟩ := hat m hm
    exact ⟨si, J, by rw [e]; rfl, gq⟩⟩
  let TO : L := .t (finT s)
  have el : f_least_register [.int (p : Nat), .lst (ii row)] = some (.t (finT s)) := by rw [e_least]; exact LR.ev_least hrun
  have s5 : t_law_5 (A ns fd2 (Z i) P RO RO x3 x4 x5 x6 x7 x8) = some (.nx, A ns fd2 (Z i) P RT RO TO x4 x5 x6 x7 x8) :=
    dSet_t (i := 6) (dCallP_eq (n := 2) (f := f_least_register) (da := dCons (dFrz 3) (dCons (dFrz 4) dNil)) (ρ := A ns fd2 (Z i) P RO RO x3 x4 x5 x6 x7 x8) (ρ1 := A ns fd2 (Z i) P RT RO x3 x4 x5 x6 x7 x8) (ts := [.int (p : Nat), .lst (ii row)]) rfl rfl el rfl) (show 6 < 12 by decide)
  -- told's places
  have tix : ∀ (ρ : REnv), gVar 6 ρ = some (TO, ρ) → (den2 gIx (gVar 6) (gC (.int 0)) ρ = some (.t (.lst (ii s.taps)), ρ) ∧ den2 gIx (gVar 6) (gC (.int 1)) ρ = some (.t (.lst (ii s.bef)), ρ) ∧ den2 gIx (gVar 6) (gC (.int 2)) ρ = some (.t (.int s.pl), ρ)) := fun ρ h6 =>
    ⟨den2_eq h6 (l2 := .t (.int 0)) (ρ2 := ρ) rfl (gIx_t _ (L2.atI_nat (j := 0) rfl)), den2_eq h6 (l2 := .t (.int 1)) (ρ2 := ρ) rfl (gIx_t _ (L2.atI_nat (j := 1) rfl)), den2_eq h6 (l2 := .t (.int 2)) (ρ2 := ρ) rfl (gIx_t _ (L2.atI_nat (j := 2) rfl))⟩
  have s7 : t_law_7 (A ns fd2 (Z i) P RT RO TO x4 x5 x6 x7 x8) = some (.nx, A ns fd2 (Z i) P RT RO TO x4 x5 x6 x7 x8) := by
    let R := A ns fd2 (Z i) P RT RO TO x4 x5 x6 x7 x8
    obtain ⟨q0, q1, _⟩ := tix R rfl
    have c1 : dNot (dTru (den1 (gIsi "tuple") (gVar 6))) R = some (false, R) := rfl
    have c2 : dBl (den2 (gB gNe) (den1 gLen (gVar 6)) (gC (.int 3))) R = some (false, R) := dBl_eq (den2_eq (g := gB gNe) (den1_eq (d := gVar 6) (l1 := TO) (ρ := R) (ρ1 := R) rfl (l := .t (.int 3)) rfl) (d2 := gC (.int 3)) (l2 := .t (.int 3)) (ρ2 := R) rfl (gNe_i _ _ _))
    have n0 := ev_numbers (p := p) (l := s.taps) I.tp (by omega)
    have n1 := ev_numbers (p := p) (l := s.bef) I.bf (by omega)
    have c3 : dNot (dTru (dCallP 2 f__law_are_numbers (dCons (den2 gIx (gVar 6) (gC (.int 0))) (dCons (dFrz 3) dNil)))) R = some (false, R) := dNot_t (dTru_b (dCallP_eq (ts := [.lst (ii s.taps), .int (p : Nat)]) (dCons_eq q0 rfl rfl) rfl n0 rfl))
    have c4 : dNot (dTru (dCallP 2 f__law_are_numbers (dCons (den2 gIx (gVar 6) (gC (.int 1))) (dCons (dFrz 3) dNil)))) R = some (false, R) := dNot_t (dTru_b (dCallP_eq (ts := [.lst (ii s.bef), .int (p : Nat)]) (dCons_eq q1 rfl rfl) rfl n1 rfl))
    have b : b_law_1 R = some (false, R) := dOr_ff c1 (dOr_ff c2 (dOr_ff c3 c4))
    exact (dIfS_f (c := b_law_1) (d := t_law_6) (d' := dNx) b).trans rfl
  let LO : L := .own (.lst (ii r))
  have s8 : t_law_8 (A ns fd2 (Z i) P RT RO TO x4 x5 x6 x7 x8) = some (.nx, A ns fd2 (Z i) P RT RO TO LO x5 x6 x7 x8) :=
    dSet_o (i := 7) (dCallP_eq (n := 2) (f := f__law_lengths) (da := dCons (dFrz 3) (dCons (dFrz 4) dNil)) (ρ := A ns fd2 (Z i) P RT RO TO x4 x5 x6 x7 x8) (ρ1 := A ns fd2 (Z i) P RT RO TO x4 x5 x6 x7 x8) (ts := [.int (p : Nat), .lst (ii row)]) rfl rfl (ev_lengths hp hN LE_ (by omega)) rfl) (show 7 < 12 by decide)
  let N := s.taps.length
  have last : atI (T.int 0 :: ii r) (-1) = some (.int (N : Nat)) := by
    refine atI_neg (by decide) (by simp; omega) ?_
    rw [show (((T.int 0 :: ii r).length : Int) + -1).toNat = r.length by rw [List.length_cons, ii_len]; omega]
    cases hr : row.length with
    | zero =>
      have e0 : r = [] := List.eq_nil_of_length_eq_zero (by omega)
      have : N = 0 := by have := I.le; rw [es] at this; simp only [N]; omega
      rw [e0, this]; rfl
    | succ m =>
      obtain ⟨si, J, e, gq⟩ := LE_.at_ m (by omega)
      rw [List.take_of_length_le (by omega)] at e
      have eq : si.taps.length = N := by
        have h1 := J.min (c := BM.g s.taps) (L := N) (by have := I.fo; rw [es] at this; rw [e]; exact this)
        have h2 := I.min (c := BM.g si.taps) (L := si.taps.length) (by have := J.fo; rw [e] at this; rw [es]; exact this)
        simp only [N] at *; omega
      have hm : m < r.length := by omega
      rw [show r.length = m + 1 by omega, List.getElem?_cons_succ]
      rw [eq] at gq
      simp only [ii, List.getElem?_map]
      rw [List.getD_eq_getElem?_getD, List.getElem?_eq_getElem hm, Option.getD_some] at gq
      rw [List.getElem?_eq_getElem hm, gq]; rfl
  let SZ : L := Z N
  have s9 : t_law_9 (A ns fd2 (Z i) P RT RO TO LO x5 x6 x7 x8) = some (.nx, A ns fd2 (Z i) P RT RO TO LO SZ x6 x7 x8) := by
    let R := A ns fd2 (Z i) P RT RO TO LO x5 x6 x7 x8
    have z : dLst (dCons (gC (.int 0)) dNil) R = some (.own (.lst [.int 0]), R) := dLst_eq (ts := [.int 0]) rfl (show (1 : Nat) ≤ line by decide)
    have ad : den2 gAdd (dLst (dCons (gC (.int 0)) dNil)) (gVar 7) R = some (.own (.lst (T.int 0 :: ii r)), R) := den2_eq z (d2 := gVar 7) (l2 := .ref 7) (ρ2 := R) rfl (by
      have hzz : ([T.int 0] : List T).length + (ii r).length ≤ line := by rw [ii_len]; exact Nat.le_trans (show _ ≤ 100 by simp; omega) (by decide)
      have q1 : R[7]? = some (.own (.lst (ii r))) := rfl
      simp only [gAdd, gCat, L.lview, q1, hzz, if_true]
      rfl)
    exact dSet_t (i := 8) (den2_eq ad (d2 := den1 gNeg (gC (.int 1))) (l2 := .t (.int (-1))) (ρ2 := R) rfl (gIx_n _ last)) (show 8 < 12 by decide)
  have s11 : t_law_11 (A ns fd2 (Z i) P RT RO TO LO SZ x6 x7 x8) = some (.nx, A ns fd2 (Z i) P RT RO TO LO SZ x6 x7 x8) := by
    let R := A ns fd2 (Z i) P RT RO TO LO SZ x6 x7 x8
    obtain ⟨q0, _, q2⟩ := tix R rfl
    have c1 : dNot (dTru (den1 (gIsi "int") (den2 gIx (gVar 6) (gC (.int 2))))) R = some (false, R) := dNot_t (dTru_b (den1_eq q2 (l := .t (.bl true)) rfl))
    have c2 : dTru (den1 (gIsi "bool") (den2 gIx (gVar 6) (gC (.int 2)))) R = some (false, R) := dTru_b (den1_eq q2 (l := .t (.bl false)) rfl)
    have c3 : dBl (den2 (gB gNe) (den1 gLen (den2 gIx (gVar 6) (gC (.int 0)))) (gVar 8)) R = some (false, R) := by
      have := dBl_eq (den2_eq (g := gB gNe) (den1_eq q0 (gLen_l _ s.taps)) (d2 := gVar 8) (l2 := SZ) (ρ2 := R) rfl (gNe_i _ _ _))
      rwa [decide_eq_true rfl] at this
    have b : b_law_2 R = some (false, R) := dOr_ff c1 (dOr_ff c2 c3)
    exact (dIfS_f (c := b_law_2) (d := t_law_10) (d' := dNx) b).trans rfl
  have s13 : t_law_13 (A ns fd2 (Z i) P RT RO TO LO SZ x6 x7 x8) = some (.nx, A ns fd2 (Z i) P RT RO TO LO SZ x6 x7 x8) := by
    let R := A ns fd2 (Z i) P RT RO TO LO SZ x6 x7 x8
    obtain ⟨q0, q1, q2⟩ := tix R rfl
    have e := ev_shown (p := (p : Int)) (row := row) (taps := s.taps) (other := s.bef) (a := s.pl) (by omega) (I.tp.sm hp) (I.bf.sm hp) (by omega) (by omega) (by omega)
    rw [told_shown hp I es (by omega)] at e
    have b : b_law_3 R = some (false, R) := dNot_t (dTru_b (dCallP_eq (ts := [.int (p : Nat), .lst (ii row), .lst (ii s.taps), .lst (ii s.bef), .int s.pl]) (dCons_eq (l := P) (ρ1 := R) rfl rfl (dCons_eq (l := RT) (ρ1 := R) rfl rfl (dCons_eq q0 rfl (dCons_eq q1 rfl (dCons_eq (da := dNil) q2 rfl rfl))))) rfl e rfl))
    exact (dIfS_f (c := b_law_3) (d := t_law_12) (d' := dNx) b).trans rfl
  let LT : L := .t (.lst (ii r))
  have s15 : t_law_15 (A ns fd2 (Z i) P RT RO TO LO SZ x6 x7 x8) = some (.nx, A ns fd2 (Z i) P RT RO TO LT SZ x6 x7 x8) := by
    let R := A ns fd2 (Z i) P RT RO TO LO SZ x6 x7 x8
    let R' := A ns fd2 (Z i) P RT RO TO LT SZ x6 x7 x8
    have ea : LR.f_lengths_along [.int (p : Nat), .lst (ii row)] = some (.own (.lst (ii r))) := by
      show (LR.intsT (ii row)).bind _ = _
      rw [LR.intsT_map, Option.bind_some, if_pos (by omega), hlens, Option.map_some]
    have k1 : dCallP 2 LR.f_lengths_along (dCons (dFrz 3) (dCons (dFrz 4) dNil)) R = some (.own (.lst (ii r)), R) := dCallP_eq (ts := [.int (p : Nat), .lst (ii row)]) rfl rfl ea rfl
    have c1 : dNot (dTru (dCallP 2 (f__law_same 5) (dCons (dCallP 2 LR.f_lengths_along (dCons (dFrz 3) (dCons (dFrz 4) dNil))) (dCons (dFrz 7) dNil)))) R = some (false, R') := dNot_t (dTru_b (dCallP_eq (ts := [.lst (ii r), .lst (ii r)]) (dCons_eq k1 rfl (dCons_eq (d := dFrz 7) (da := dNil) (l := LT) (ρ1 := R') rfl rfl rfl)) rfl (same_ii (by omega)) rfl))
    have eo : f_is_only [.int (p : Nat), .lst (ii row)] = some (.t (.bl (decide (2 * N ≤ row.length)))) := by rw [e_only]; exact LR.ev_only hrun
    have k2 : dCallP 2 f_is_only (dCons (dFrz 3) (dCons (dFrz 4) dNil)) R' = some (.t (.bl (decide (2 * N ≤ row.length))), R') := dCallP_eq (ts := [.int (p : Nat), .lst (ii row)]) rfl rfl eo rfl
    have k3 : den2 (gB gLe) (den2 gMul (gC (.int 2)) (gVar 8)) (den1 gLen (gVar 4)) R' = some (.t (.bl (decide (2 * N ≤ row.length))), R') := by
      have m := den2_eq (g := gMul) (d1 := gC (.int 2)) (d2 := gVar 8) (l1 := .t (.int 2)) (l2 := SZ) (ρ := R') (ρ1 := R') (ρ2 := R') rfl rfl (gMul_e R' (mulOk_small (by decide) (by decide)))
      have := den2_eq (g := gB gLe) m (den1_eq (d := gVar 4) (l1 := RT) (ρ := R') (ρ1 := R') rfl (gLen_l _ row)) (l := .t (.bl (decide (2 * ((N : Nat) : Int) ≤ row.length)))) rfl
      rw [show decide (2 * ((N : Nat) : Int) ≤ row.length) = decide (2 * N ≤ row.length) from decide_eq_decide.mpr (by omega)] at this
      exact this
    have c2 : dNot (dTru (dCallP 2 (f__law_same 5) (dCons (dCallP 2 f_is_only (dCons (dFrz 3) (dCons (dFrz 4) dNil))) (dCons (den2 (gB gLe) (den2 gMul (gC (.int 2)) (gVar 8)) (den1 gLen (gVar 4))) dNil)))) R' = some (false, R') := dNot_t (dTru_b (dCallP_eq (ts := [.bl _, .bl _]) (dCons_eq k2 rfl (dCons_eq (da := dNil) k3 rfl rfl)) rfl (same_bl _) rfl))
    have b : b_law_4 R = some (false, R') := dOr_ff c1 c2
    exact (dIfS_f (c := b_law_4) (d := t_law_14) (d' := dNx) b).trans rfl
  obtain ⟨fd3, ep, g3⟩ := ev_papers (p := p) (row := row) (tp := s.taps) (ot := s.bef) (pl := s.pl) hp I.tp I.bf (by omega) (by omega) (by omega) g2
  have s17 : t_law_17 (A ns fd2 (Z i) P RT RO TO LT SZ x6 x7 x8) = some (.nx, A ns fd3 (Z i) P RT RO TO LT SZ x6 x7 x8) := by
    let R := A ns fd2 (Z i) P RT RO TO LT SZ x6 x7 x8
    let R' := A ns fd3 (Z i) P RT RO TO LT SZ x6 x7 x8
    have k : dCallF 4 1 g__law_papers_hold (dCons (dFrz 3) (dCons (dFrz 4) (dCons (dFrz 6) dNil))) R = some (.t (.bl true), R') := by
      have ha : dCons (dFrz 3) (dCons (dFrz 4) (dCons (dFrz 6) dNil)) R = some ([.int (p : Nat), .lst (ii row), pT (s.taps, s.bef, s.pl)], R) := rfl
      have ho : isOwnL R 1 = true := rfl
      have h1 : R[1]? = some (.own (.lst fd2)) := rfl
      simp only [dCallF, ho, ha, h1, ep, if_true, Option.bind_some, List.length_cons, List.length_nil, Nat.zero_add, Nat.reduceAdd, nor, Option.map_some]
      rfl
    have c1 : dNot (dTru (dCallF 4 1 g__law_papers_hold (dCons (dFrz 3) (dCons (dFrz 4) (dCons (dFrz 6) dNil))))) R = some (false, R') := dNot_t (dTru_b k)
    have c2 : dBl (den2 (gB gNe) (gVar 4) (gVar 5)) R' = some (false, R') := dBl_eq (den2_eq (g := gB gNe) (d1 := gVar 4) (d2 := gVar 5) (l1 := RT) (l2 := .ref 5) (ρ := R') (ρ1 := R') (ρ2 := R') rfl rfl (gNe_same (x := row) rfl rfl))
    have b : b_law_5 R = some (false, R') := dOr_ff c1 c2
    exact (dIfS_f (c := b_law_5) (d := t_law_16) (d' := dNx) b).trans rfl
  let B (fd : List T) (a b c : L) := A ns fd (Z i) P RT RO TO LT SZ a b c
  obtain ⟨v, fd4, e4, hv, g4⟩ := drw (i := 1) (da := dCons (gC (.int 21)) dNil) (ρ := B fd3 x6 x7 x8) (m := 21) rfl rfl rfl g3 (by decide) (by decide)
  obtain ⟨tp, fd5, e5, l5, n5, g5⟩ := ev_drawn (p := p) (m := v) g4 (by omega) (by omega) (by omega)
  let TP : L := .own (.lst (ii tp))
  have s18 : t_law_18 (B fd3 x6 x7 x8) = some (.nx, B fd5 TP x7 x8) :=
    dSet_o (i := 9) (callF2 (i := 1) (g := g__law_drawn_numbers) (da := dCons (dFrz 3) (dCons (dCallF 2 1 g__law_draw (dCons (gC (.int 21)) dNil)) dNil)) (ρ := B fd3 x6 x7 x8) (ρ1 := B fd4 x6 x7 x8) rfl (dCons_eq (d := dFrz 3) (l := P) (ρ1 := B fd3 x6 x7 x8) rfl rfl (dCons_eq (da := dNil) e4 rfl rfl)) rfl e5 rfl) (show 9 < 12 by decide)
  obtain ⟨bg, fd6, e6, l6, n6, g6⟩ := ev_drawn (p := p) (m := v) g5 (by omega) (by omega) (by omega)
  let BG : L := .own (.lst (ii bg))
  have ln : den1 gLen (gVar 9) (B fd5 TP x7 x8) = some (Z v, B fd5 TP x7 x8) := by
    have := den1_eq (d := gVar 9) (l1 := .ref 9) (ρ := B fd5 TP x7 x8) (ρ1 := B fd5 TP x7 x8) rfl (gLen_r _ (k := 9) (t := ii tp) rfl)
    rw [ii_len, l5] at this
    exact this
  have s19 : t_law_19 (B fd5 TP x7 x8) = some (.nx, B fd6 TP BG x8) :=
    dSet_o (i := 10) (callF2 (i := 1) (g := g__law_drawn_numbers) (da := dCons (dFrz 3) (dCons (den1 gLen (gVar 9)) dNil)) (ρ := B fd5 TP x7 x8) (ρ1 := B fd5 TP x7 x8) rfl (dCons_eq (d := dFrz 3) (l := P) (ρ1 := B fd5 TP x7 x8) rfl rfl (dCons_eq (da := dNil) ln rfl rfl)) rfl e6 rfl) (show 10 < 12 by decide)
  obtain ⟨w, fd7, e7, hw, g7⟩ := drw (i := 1) (da := dCons (gC (.int 2)) dNil) (ρ := B fd6 TP BG x8) (m := 2) rfl rfl rfl g6 (by decide) (by decide)
  let bd : Nat := if w = 0 then 12 else 201
  have bb : den2 gIx (dLst (dCons (gC (.int 12)) (dCons (gC (.int 201)) dNil))) (dCallF 2 1 g__law_draw (dCons (gC (.int 2)) dNil)) (B fd6 TP BG x8) = some (.t (.int (bd : Nat)), B fd7 TP BG x8) := by
    refine den2_eq (dLst_eq (ρ := B fd6 TP BG x8) (ts := [.int 12, .int 201]) rfl (show (2 : Nat) ≤ line by decide)) e7 (gIx_n _ ?_)
    have : w = 0 ∨ w = 1 := by omega
    rcases this with rfl | rfl <;> exact L2.atI_nat (by rfl)
  have hbd : 0 < bd ∧ bd ≤ 201 := by simp only [bd]; split <;> omega
  obtain ⟨m, fd8, e8, hm, g8⟩ := drw (i := 1) (da := dCons (den2 gIx (dLst (dCons (gC (.int 12)) (dCons (gC (.int 201)) dNil))) (dCallF 2 1 g__law_draw (dCons (gC (.int 2)) dNil))) dNil) (ρ := B fd6 TP BG x8) (ρ1 := B fd7 TP BG x8) (m := (bd : Nat)) rfl (dCons_eq (da := dNil) bb rfl rfl) rfl g7 (by omega) (by omega)
  have s20 : t_law_20 (B fd6 TP BG x8) = some (.nx, B fd8 TP BG (Z m)) := dSet_t (i := 11) e8 (show 11 < 12 by decide)
  let TF : L := .t (.lst (ii tp))
  let BF : L := .t (.lst (ii bg))
  have s22 : t_law_22 (B fd8 TP BG (Z m)) = some (.nx, B fd8 TF BF (Z m)) := by
    let R := B fd8 TP BG (Z m)
    let R1 := B fd8 TF BG (Z m)
    let R' := B fd8 TF BF (Z m)
    have r1 := ev_register_row (p := (p : Int)) (taps := tp) (begun := bg) (m := m) (by omega) (n5.sm hp) (by omega) (by omega) (by omega) (by omega)
    have r2 := ev_law_row (p := (p : Int)) (taps := tp) (begun := bg) (m := m) (by omega) (n5.sm hp) (by omega) (by omega) (by omega) (by omega)
    have k1 : dCallP 4 f_register_row (dCons (dFrz 3) (dCons (den1 gList (gVar 9)) (dCons (den1 gList (gVar 10)) (dCons (gVar 11) dNil)))) R = some (.own (.lst (ii (rowR p tp bg m))), R) :=
      dCallP_eq (ts := [.int (p : Nat), .lst (ii tp), .lst (ii bg), .int (m : Nat)]) rfl rfl r1 rfl
    have k2 : dCallP 4 f__law_register_row (dCons (dFrz 3) (dCons (dFrz 9) (dCons (dFrz 10) (dCons (gVar 11) dNil)))) R = some (.own (.lst (ii (rowR p tp bg m))), R') :=
      dCallP_eq (ts := [.int (p : Nat), .lst (ii tp), .lst (ii bg), .int (m : Nat)]) (dCons_eq (d := dFrz 3) (l := P) (ρ1 := R) rfl rfl (dCons_eq (d := dFrz 9) (l := TF) (ρ1 := R1) rfl rfl (dCons_eq (d := dFrz 10) (l := BF) (ρ1 := R') rfl rfl (dCons_eq (d := gVar 11) (da := dNil) (l := Z m) (ρ1 := R') rfl rfl rfl)))) rfl r2 rfl
    have b : b_law_6 R = some (false, R') := dNot_t (dTru_b (dCallP_eq (n := 2) (f := f__law_same 5) (ts := [.lst (ii (rowR p tp bg m)), .lst (ii (rowR p tp bg m))]) (dCons_eq k1 rfl (dCons_eq (da := dNil) k2 rfl rfl)) rfl (same_ii (Nat.le_trans rowR_len (by omega))) rfl))
    exact (dIfS_f (c := b_law_6) (d := t_law_21) (d' := dNx) b).trans rfl
  refine ⟨fd8, P, RT, RO, TO, LT, SZ, TF, BF, Z m, ?_, g8⟩
  unfold l_law_1
  rw [dSeq_nx s2, dSeq_nx s3, dSeq_nx s4, dSeq_nx s5, dSeq_nx s7, dSeq_nx s8, dSeq_nx s9, dSeq_nx s11, dSeq_nx s13, dSeq_nx s15, dSeq_nx s17, dSeq_nx s18, dSeq_nx s19, dSeq_nx s20]
  exact s22
theorem ev_law (ns : List Int) : f_law [.lkl (ii ns)] = some (.t (.bl true)) := by
  let E0 : REnv := E_law (.t (.lkl (ii ns))) .un .un .un .un .un .un .un .un .un .un .un
  have ef : f__law_feed [.lkl (ii ns)] = some (.own (.lst (FD ns 0 0 1))) := rfl
  have s1 : t_law_1 E0 = some (.nx, A ns (FD ns 0 0 1) .un .un .un .un .un .un .un .un .un .un) :=
    dSet_o (i := 1) (dCallP_eq (n := 1) (f := f__law_feed) (da := dCons (gVar 0) dNil) (ρ := E0) (ρ1 := E0) (ts := [.lkl (ii ns)]) rfl rfl ef rfl) (show 1 < 12 by decide)
  obtain ⟨ρ', hf, fd, t, a, b, c, d, e, f, g, h, j, rfl, _⟩ := forL_range (g := gNameT 2) (db := l_law_1) (fun _ ρ => ∃ fd t a b c d e f g h j, ρ = A ns fd t a b c d e f g h j ∧ GF fd) 3 (fun i ρ hi hI => by
    obtain ⟨fd, t, a, b, c, d, e, f, g, h, j, rfl, hf⟩ := hI
    obtain ⟨fd', y0, y1, y2, y3, y4, y5, y6, y7, y8, e1, g1⟩ := lw_turn (ns := ns) hf hi (x0 := a) (x1 := b) (x2 := c) (x3 := d) (x4 := e) (x5 := f) (x6 := g) (x7 := h) (x8 := j)
    exact ⟨_, _, rfl, e1, fd', Z i, y0, y1, y2, y3, y4, y5, y6, y7, y8, rfl, g1⟩) (A ns (FD ns 0 0 1) .un .un .un .un .un .un .un .un .un .un) ⟨_, .un, .un, .un, .un, .un, .un, .un, .un, .un, .un, rfl, ⟨ns, 0, 0, 1, rfl, by decide, by decide, by decide, by decide⟩⟩
  have s2 : t_law_23 (A ns (FD ns 0 0 1) .un .un .un .un .un .un .un .un .un .un) = some (.nx, A ns fd t a b c d e f g h j) := dFor_eq (as := [2, 3, 4, 5, 6, 7, 8, 9, 10, 11]) (iRange1_eq (d := gC (.int 3)) (n := 3) rfl (by omega)) hf
  have hd : d_law E0 = some (.ret (.t (.bl true)), A ns fd t a b c d e f g h j) := by
    unfold d_law
    rw [dSeq_nx s1, dSeq_nx s2]
    rfl
  exact bodyP_t (n := 1) (m := 12) (d := d_law) rfl hd
end LK
namespace LK
open PySem PySem.Spec PyProof.Rows L2 LW
open LR (f_finder_of f_lengths_along)
abbrev fa0 : Nat → Addr := fun _ => 0
def spLaw (K : PySem.W.Frag) : Sp := spM K fa0 1 (pureF f_law)
theorem law_sp {K : PySem.W.Frag} {H : Hp} {a : Addr} {ns : List Int} {E : XK} (hS : SqL K H a (ns.map V.int)) : spLaw K [.ref a] H (fun v _ => v = .bl true) E :=
  ⟨rfl, H, [.t (.lkl (ns.map T.int))], .t (.bl true), [.t (.lkl (ns.map T.int))], env_ts (ts := [.lkl (ns.map T.int)]) (Same.refl _) (RepAll.one (.lkl hS (RepAll.of_ints ns))), by
    have e : f_law [.lkl (ns.map T.int)] = some (.t (.bl true)) := ev_law ns
    simp only [pureF, allT, Option.map_some, Option.bind_some, e], fun v G' H' P => Rep.bl_inv P.rep⟩
theorem all_mk {l : PySem.W.OpenLaw} {w : World} {K : PySem.W.Frag} {h : Heap} {mg : Str → Option Value} {fa f1 f2 f3 f4 f5 f6 f7 f8 f9 f10 f11 f12 f13 f14 f15 f16 f17 f18 f19 f20 f21 f22 f23 f24 f25 f26 f27 f28 f29 f30 : Addr} (X : K.In h) (G : h.Ns mainGlobals mg) (hfa : mg "law" = some (.ref fa))
    {od1 an1 od2 an2 od3 an3 od4 an4 od5 an5 od6 an6 od7 an7 od8 an8 od9 an9 od10 an10 od11 an11 od12 an12 od13 an13 od14 an14 od15 an15 od16 an16 od17 an17 od18 an18 od19 an19 od20 an20 od21 an21 od22 an22 od23 an23 od24 an24 od25 an25 od26 an26 od27 an27 od28 an28 od29 an29 od30 an30 : Option Addr} {sl1 sl2 sl3 sl4 sl5 sl6 sl7 sl8 sl9 sl10 sl11 sl12 sl13 sl14 sl15 sl16 sl17 sl18 sl19 sl20 sl21 sl22 sl23 sl24 sl25 sl26 sl27 sl28 sl29 sl30 : Array (Option Value)} {oc1 kV1 dc1 pm1 cd1 ct1 oc2 kV2 dc2 pm2 cd2 ct2 oc3 kV3 dc3 pm3 cd3 ct3 oc4 kV4 dc4 pm4 cd4 ct4 oc5 kV5 dc5 pm5 cd5 ct5 oc6 kV6 dc6 pm6 cd6 ct6 oc7 kV7 dc7 pm7 cd7 ct7 oc8 kV8 dc8 pm8 cd8 ct8 oc9 kV9 dc9 pm9 cd9 ct9 oc10 kV10 dc10 pm10 cd10 ct10 oc11 kV11 dc11 pm11 cd11 ct11 oc12 kV12 dc12 pm12 cd12 ct12 oc13 kV13 dc13 pm13 cd13 ct13 oc14 kV14 dc14 pm14 cd14 ct14 oc15 kV15 dc15 pm15 cd15 ct15 oc16 kV16 dc16 pm16 cd16 ct16 oc17 kV17 dc17 pm17 cd17 ct17 oc18 kV18 dc18 pm18 cd18 ct18 oc19 kV19 dc19 pm19 cd19 ct19 oc20 kV20 dc20 pm20 cd20 ct20 oc21 kV21 dc21 pm21 cd21 ct21 oc22 kV22 dc22 pm22 cd22 ct22 oc23 kV23 dc23 pm23 cd23 ct23 oc24 kV24 dc24 pm24 cd24 ct24 oc25 kV25 dc25 pm25 cd25 ct25 oc26 kV26 dc26 pm26 cd26 ct26 oc27 kV27 dc27 pm27 cd27 ct27 oc28 kV28 dc28 pm28 cd28 ct28 oc29 kV29 dc29 pm29 cd29 ct29 oc30 kV30 dc30 pm30 cd30 ct30 : Value}
    {C : Addr} (aC : PySem.W.nsIn K mainGlobals "Finder" = some (some (.ref C))) (pg : PySem.W.plainGet K C Str.empty = true) (hd : PySem.W.hasDictIn K C = true) (po : PySem.W.plainOver K C = true) (sa : PySem.W.findIn K (.ref C) "__setattr__" = some (some (.builtin "object.__setattr__"))) (mk : PySem.W.makesIn K C = true) (kc : PySem.W.keepIn K (.ref C) = true)
    (n_p : PySem.W.findIn K (.ref C) "p" = some none) (n_row : PySem.W.findIn K (.ref C) "row" = some none) (n_taps : PySem.W.findIn K (.ref C) "taps" = some none) (n_before : PySem.W.findIn K (.ref C) "before" = some none)
    {t_MOST_TAPS : Nat} (zg_MOST_TAPS : PySem.W.nsIn K mainGlobals "MOST_TAPS" = some (some (Value.int 40 t_MOST_TAPS)))
    (a1 : PySem.W.nsIn K mainGlobals "_law_are_numbers" = some (some (.ref f1))) (l1 : K.lookup f1 = some ⟨oc1, od1, .func (PySem.W.fnOf "_law_are_numbers" "_law_are_numbers" (defArgs s__law_are_numbers) (defBody s__law_are_numbers) (defScope s__law_are_numbers) .none kV1 dc1 pm1 an1 cd1 ct1), sl1⟩) (c1 : PySem.W.codeIn K cd1 "_law_are_numbers" = true) (k1 : PySem.W.keepIn K (.ref f1) = true)
    (a2 : PySem.W.nsIn K mainGlobals "_law_draw" = some (some (.ref f2))) (l2 : K.lookup f2 = some ⟨oc2, od2, .func (PySem.W.fnOf "_law_draw" "_law_draw" (defArgs s__law_draw) (defBody s__law_draw) (defScope s__law_draw) .none kV2 dc2 pm2 an2 cd2 ct2), sl2⟩) (c2 : PySem.W.codeIn K cd2 "_law_draw" = true) (k2 : PySem.W.keepIn K (.ref f2) = true)
    (a3 : PySem.W.nsIn K mainGlobals "_law_drawn_numbers" = some (some (.ref f3))) (l3 : K.lookup f3 = some ⟨oc3, od3, .func (PySem.W.fnOf "_law_drawn_numbers" "_law_drawn_numbers" (defArgs s__law_drawn_numbers) (defBody s__law_drawn_numbers) (defScope s__law_drawn_numbers) .none kV3 dc3 pm3 an3 cd3 ct3), sl3⟩) (c3 : PySem.W.codeIn K cd3 "_law_drawn_numbers" = true) (k3 : PySem.W.keepIn K (.ref f3) = true)
    (a4 : PySem.W.nsIn K mainGlobals "_law_feed" = some (some (.ref f4))) (l4 : K.lookup f4 = some ⟨oc4, od4, .func (PySem.W.fnOf "_law_feed" "_law_feed" (defArgs s__law_feed) (defBody s__law_feed) (defScope s__law_feed) .none kV4 dc4 pm4 an4 cd4 ct4), sl4⟩) (c4 : PySem.W.codeIn K cd4 "_law_feed" = true) (k4 : PySem.W.keepIn K (.ref f4) = true)
    (a5 : PySem.W.nsIn K mainGlobals "_law_no_register" = some (some (.ref f5))) (l5 : K.lookup f5 = some ⟨oc5, od5, .func (PySem.W.fnOf "_law_no_register" "_law_no_register" (defArgs s__law_no_register) (defBody s__law_no_register) (defScope s__law_no_register) .none kV5 dc5 pm5 an5 cd5 ct5), sl5⟩) (c5 : PySem.W.codeIn K cd5 "_law_no_register" = true) (k5 : PySem.W.keepIn K (.ref f5) = true)
    (a6 : PySem.W.nsIn K mainGlobals "_law_lengths" = some (some (.ref f6))) (l6 : K.lookup f6 = some ⟨oc6, od6, .func (PySem.W.fnOf "_law_lengths" "_law_lengths" (defArgs s__law_lengths) (defBody s__law_lengths) (defScope s__law_lengths) .none kV6 dc6 pm6 an6 cd6 ct6), sl6⟩) (c6 : PySem.W.codeIn K cd6 "_law_lengths" = true) (k6 : PySem.W.keepIn K (.ref f6) = true)
    (a7 : PySem.W.nsIn K mainGlobals "_law_same" = some (some (.ref f7))) (l7 : K.lookup f7 = some ⟨oc7, od7, .func (PySem.W.fnOf "_law_same" "_law_same" (defArgs s__law_same) (defBody s__law_same) (defScope s__law_same) .none kV7 dc7 pm7 an7 cd7 ct7), sl7⟩) (c7 : PySem.W.codeIn K cd7 "_law_same" = true) (k7 : PySem.W.keepIn K (.ref f7) = true)
    (a8 : PySem.W.nsIn K mainGlobals "_law_follows" = some (some (.ref f8))) (l8 : K.lookup f8 = some ⟨oc8, od8, .func (PySem.W.fnOf "_law_follows" "_law_follows" (defArgs s__law_follows) (defBody s__law_follows) (defScope s__law_follows) .none kV8 dc8 pm8 an8 cd8 ct8), sl8⟩) (c8 : PySem.W.codeIn K cd8 "_law_follows" = true) (k8 : PySem.W.keepIn K (.ref f8) = true)
    (a9 : PySem.W.nsIn K mainGlobals "_law_shown" = some (some (.ref f9))) (l9 : K.lookup f9 = some ⟨oc9, od9, .func (PySem.W.fnOf "_law_shown" "_law_shown" (defArgs s__law_shown) (defBody s__law_shown) (defScope s__law_shown) .none kV9 dc9 pm9 an9 cd9 ct9), sl9⟩) (c9 : PySem.W.codeIn K cd9 "_law_shown" = true) (k9 : PySem.W.keepIn K (.ref f9) = true)
    (a10 : PySem.W.nsIn K mainGlobals "is_whole" = some (some (.ref f10))) (l10 : K.lookup f10 = some ⟨oc10, od10, .func (PySem.W.fnOf "is_whole" "is_whole" (defArgs s_is_whole) (defBody s_is_whole) (defScope s_is_whole) .none kV10 dc10 pm10 an10 cd10 ct10), sl10⟩) (c10 : PySem.W.codeIn K cd10 "is_whole" = true) (k10 : PySem.W.keepIn K (.ref f10) = true)
    (a11 : PySem.W.nsIn K mainGlobals "is_between" = some (some (.ref f11))) (l11 : K.lookup f11 = some ⟨oc11, od11, .func (PySem.W.fnOf "is_between" "is_between" (defArgs s_is_between) (defBody s_is_between) (defScope s_is_between) .none kV11 dc11 pm11 an11 cd11 ct11), sl11⟩) (c11 : PySem.W.codeIn K cd11 "is_between" = true) (k11 : PySem.W.keepIn K (.ref f11) = true)
    (a12 : PySem.W.nsIn K mainGlobals "are_between" = some (some (.ref f12))) (l12 : K.lookup f12 = some ⟨oc12, od12, .func (PySem.W.fnOf "are_between" "are_between" (defArgs s_are_between) (defBody s_are_between) (defScope s_are_between) .none kV12 dc12 pm12 an12 cd12 ct12), sl12⟩) (c12 : PySem.W.codeIn K cd12 "are_between" = true) (k12 : PySem.W.keepIn K (.ref f12) = true)
    (a13 : PySem.W.nsIn K mainGlobals "are_taps" = some (some (.ref f13))) (l13 : K.lookup f13 = some ⟨oc13, od13, .func (PySem.W.fnOf "are_taps" "are_taps" (defArgs s_are_taps) (defBody s_are_taps) (defScope s_are_taps) .none kV13 dc13 pm13 an13 cd13 ct13), sl13⟩) (c13 : PySem.W.codeIn K cd13 "are_taps" = true) (k13 : PySem.W.keepIn K (.ref f13) = true)
    (a14 : PySem.W.nsIn K mainGlobals "next_number" = some (some (.ref f14))) (l14 : K.lookup f14 = some ⟨oc14, od14, .func (PySem.W.fnOf "next_number" "next_number" (defArgs s_next_number) (defBody s_next_number) (defScope s_next_number) .none kV14 dc14 pm14 an14 cd14 ct14), sl14⟩) (c14 : PySem.W.codeIn K cd14 "next_number" = true) (k14 : PySem.W.keepIn K (.ref f14) = true)
    (a15 : PySem.W.nsIn K mainGlobals "is_row_of" = some (some (.ref f15))) (l15 : K.lookup f15 = some ⟨oc15, od15, .func (PySem.W.fnOf "is_row_of" "is_row_of" (defArgs s_is_row_of) (defBody s_is_row_of) (defScope s_is_row_of) .none kV15 dc15 pm15 an15 cd15 ct15), sl15⟩) (c15 : PySem.W.codeIn K cd15 "is_row_of" = true) (k15 : PySem.W.keepIn K (.ref f15) = true)
    (a16 : PySem.W.nsIn K mainGlobals "shows_least_register" = some (some (.ref f16))) (l16 : K.lookup f16 = some ⟨oc16, od16, .func (PySem.W.fnOf "shows_least_register" "shows_least_register" (defArgs s_shows_least_register) (defBody s_shows_least_register) (defScope s_shows_least_register) .none kV16 dc16 pm16 an16 cd16 ct16), sl16⟩) (c16 : PySem.W.codeIn K cd16 "shows_least_register" = true) (k16 : PySem.W.keepIn K (.ref f16) = true)
    (a17 : PySem.W.nsIn K mainGlobals "_law_papers_hold" = some (some (.ref f17))) (l17 : K.lookup f17 = some ⟨oc17, od17, .func (PySem.W.fnOf "_law_papers_hold" "_law_papers_hold" (defArgs s__law_papers_hold) (defBody s__law_papers_hold) (defScope s__law_papers_hold) .none kV17 dc17 pm17 an17 cd17 ct17), sl17⟩) (c17 : PySem.W.codeIn K cd17 "_law_papers_hold" = true) (k17 : PySem.W.keepIn K (.ref f17) = true)
    (a18 : PySem.W.nsIn K mainGlobals "_law_register_row" = some (some (.ref f18))) (l18 : K.lookup f18 = some ⟨oc18, od18, .func (PySem.W.fnOf "_law_register_row" "_law_register_row" (defArgs s__law_register_row) (defBody s__law_register_row) (defScope s__law_register_row) .none kV18 dc18 pm18 an18 cd18 ct18), sl18⟩) (c18 : PySem.W.codeIn K cd18 "_law_register_row" = true) (k18 : PySem.W.keepIn K (.ref f18) = true)
    (a19 : PySem.W.nsIn K mainGlobals "_law_row" = some (some (.ref f19))) (l19 : K.lookup f19 = some ⟨oc19, od19, .func (PySem.W.fnOf "_law_row" "_law_row" (defArgs s__law_row) (defBody s__law_row) (defScope s__law_row) .none kV19 dc19 pm19 an19 cd19 ct19), sl19⟩) (c19 : PySem.W.codeIn K cd19 "_law_row" = true) (k19 : PySem.W.keepIn K (.ref f19) = true)
    (a20 : PySem.W.findIn K (.ref C) "__init__" = some (some (.ref f20))) (i20 : PySem.W.isFn K (.ref f20) = true) (l20 : K.lookup f20 = some ⟨oc20, od20, .func (PySem.W.fnOf "__init__" "Finder.__init__" (defArgs s_Finder___init__) (defBody s_Finder___init__) (defScope s_Finder___init__) .none kV20 dc20 pm20 an20 cd20 ct20), sl20⟩) (c20 : PySem.W.codeIn K cd20 "Finder.__init__" = true) (k20 : PySem.W.keepIn K (.ref f20) = true)
    (a21 : PySem.W.nsIn K mainGlobals "inverse_number" = some (some (.ref f21))) (l21 : K.lookup f21 = some ⟨oc21, od21, .func (PySem.W.fnOf "inverse_number" "inverse_number" (defArgs s_inverse_number) (defBody s_inverse_number) (defScope s_inverse_number) .none kV21 dc21 pm21 an21 cd21 ct21), sl21⟩) (c21 : PySem.W.codeIn K cd21 "inverse_number" = true) (k21 : PySem.W.keepIn K (.ref f21) = true)
    (a22 : PySem.W.findIn K (.ref C) "made" = some (some (.ref f22))) (i22 : PySem.W.isFn K (.ref f22) = true) (l22 : K.lookup f22 = some ⟨oc22, od22, .func (PySem.W.fnOf "made" "Finder.made" (defArgs s_Finder_made) (defBody s_Finder_made) (defScope s_Finder_made) .none kV22 dc22 pm22 an22 cd22 ct22), sl22⟩) (c22 : PySem.W.codeIn K cd22 "Finder.made" = true) (k22 : PySem.W.keepIn K (.ref f22) = true)
    (a23 : PySem.W.findIn K (.ref C) "first_taps" = some (some (.ref f23))) (i23 : PySem.W.isFn K (.ref f23) = true) (l23 : K.lookup f23 = some ⟨oc23, od23, .func (PySem.W.fnOf "first_taps" "Finder.first_taps" (defArgs s_Finder_first_taps) (defBody s_Finder_first_taps) (defScope s_Finder_first_taps) .none kV23 dc23 pm23 an23 cd23 ct23), sl23⟩) (c23 : PySem.W.codeIn K cd23 "Finder.first_taps" = true) (k23 : PySem.W.keepIn K (.ref f23) = true)
    (a24 : PySem.W.findIn K (.ref C) "take" = some (some (.ref f24))) (i24 : PySem.W.isFn K (.ref f24) = true) (l24 : K.lookup f24 = some ⟨oc24, od24, .func (PySem.W.fnOf "take" "Finder.take" (defArgs s_Finder_take) (defBody s_Finder_take) (defScope s_Finder_take) .none kV24 dc24 pm24 an24 cd24 ct24), sl24⟩) (c24 : PySem.W.codeIn K cd24 "Finder.take" = true) (k24 : PySem.W.keepIn K (.ref f24) = true)
    (a25 : PySem.W.nsIn K mainGlobals "finder_of" = some (some (.ref f25))) (l25 : K.lookup f25 = some ⟨oc25, od25, .func (PySem.W.fnOf "finder_of" "finder_of" (defArgs s_finder_of) (defBody s_finder_of) (defScope s_finder_of) .none kV25 dc25 pm25 an25 cd25 ct25), sl25⟩) (c25 : PySem.W.codeIn K cd25 "finder_of" = true) (k25 : PySem.W.keepIn K (.ref f25) = true)
    (a26 : PySem.W.nsIn K mainGlobals "is_only" = some (some (.ref f26))) (l26 : K.lookup f26 = some ⟨oc26, od26, .func (PySem.W.fnOf "is_only" "is_only" (defArgs s_is_only) (defBody s_is_only) (defScope s_is_only) .none kV26 dc26 pm26 an26 cd26 ct26), sl26⟩) (c26 : PySem.W.codeIn K cd26 "is_only" = true) (k26 : PySem.W.keepIn K (.ref f26) = true)
    (a27 : PySem.W.nsIn K mainGlobals "least_register" = some (some (.ref f27))) (l27 : K.lookup f27 = some ⟨oc27, od27, .func (PySem.W.fnOf "least_register" "least_register" (defArgs s_least_register) (defBody s_least_register) (defScope s_least_register) .none kV27 dc27 pm27 an27 cd27 ct27), sl27⟩) (c27 : PySem.W.codeIn K cd27 "least_register" = true) (k27 : PySem.W.keepIn K (.ref f27) = true)
    (a28 : PySem.W.nsIn K mainGlobals "lengths_along" = some (some (.ref f28))) (l28 : K.lookup f28 = some ⟨oc28, od28, .func (PySem.W.fnOf "lengths_along" "lengths_along" (defArgs s_lengths_along) (defBody s_lengths_along) (defScope s_lengths_along) .none kV28 dc28 pm28 an28 cd28 ct28), sl28⟩) (c28 : PySem.W.codeIn K cd28 "lengths_along" = true) (k28 : PySem.W.keepIn K (.ref f28) = true)
    (a29 : PySem.W.nsIn K mainGlobals "register_row" = some (some (.ref f29))) (l29 : K.lookup f29 = some ⟨oc29, od29, .func (PySem.W.fnOf "register_row" "register_row" (defArgs s_register_row) (defBody s_register_row) (defScope s_register_row) .none kV29 dc29 pm29 an29 cd29 ct29), sl29⟩) (c29 : PySem.W.codeIn K cd29 "register_row" = true) (k29 : PySem.W.keepIn K (.ref f29) = true)
    (a30 : PySem.W.nsIn K mainGlobals "law" = some (some (.ref f30))) (l30 : K.lookup f30 = some ⟨oc30, od30, .func (PySem.W.fnOf "law" "law" (defArgs s_law) (defBody s_law) (defScope s_law) .none kV30 dc30 pm30 an30 cd30 ct30), sl30⟩) (c30 : PySem.W.codeIn K cd30 "law" = true) (k30 : PySem.W.keepIn K (.ref f30) = true)
    (z_abs : PySem.W.nsIn K mainGlobals "abs" = some none)
    (z_all : PySem.W.nsIn K mainGlobals "all" = some none)
    (z_any : PySem.W.nsIn K mainGlobals "any" = some none)
    (z_bool : PySem.W.nsIn K mainGlobals "bool" = some none)
    (z_enumerate : PySem.W.nsIn K mainGlobals "enumerate" = some none)
    (z_int : PySem.W.nsIn K mainGlobals "int" = some none)
    (z_isinstance : PySem.W.nsIn K mainGlobals "isinstance" = some none)
    (z_len : PySem.W.nsIn K mainGlobals "len" = some none)
    (z_list : PySem.W.nsIn K mainGlobals "list" = some none)
    (z_max : PySem.W.nsIn K mainGlobals "max" = some none)
    (z_range : PySem.W.nsIn K mainGlobals "range" = some none)
    (z_str : PySem.W.nsIn K mainGlobals "str" = some none)
    (z_sum : PySem.W.nsIn K mainGlobals "sum" = some none)
    (z_tuple : PySem.W.nsIn K mainGlobals "tuple" = some none)
    (z_zip : PySem.W.nsIn K mainGlobals "zip" = some none)
    : ∃ fd : FuncData, (∀ (s : Shared) (v : Value), BindsTo s fd ⟨[v], []⟩ [("script", v)]) ∧ ∀ base : Heap, K.In base → base.Ns mainGlobals mg → FnOk l.prog w K mg base CX0 8 fa fd ["script"] (spLaw K) := by
  have e := hfa.symm.trans (PySem.W.mg_of X G a30)
  cases e
  have F1 := fun_mk (st := s__law_are_numbers) l1 c1 k1
  have F2 := fun_mk (st := s__law_draw) l2 c2 k2
  have F3 := fun_mk (st := s__law_drawn_numbers) l3 c3 k3
  have F4 := fun_mk (st := s__law_feed) l4 c4 k4
  have F5 := fun_mk (st := s__law_no_register) l5 c5 k5
  have F6 := fun_mk (st := s__law_lengths) l6 c6 k6
  have F7 := fun_mk (st := s__law_same) l7 c7 k7
  have F8 := fun_mk (st := s__law_follows) l8 c8 k8
  have F9 := fun_mk (st := s__law_shown) l9 c9 k9
  have F10 := fun_mk (st := s_is_whole) l10 c10 k10
  have F11 := fun_mk (st := s_is_between) l11 c11 k11
  have F12 := fun_mk (st := s_are_between) l12 c12 k12
  have F13 := fun_mk (st := s_are_taps) l13 c13 k13
  have F14 := fun_mk (st := s_next_number) l14 c14 k14
  have F15 := fun_mk (st := s_is_row_of) l15 c15 k15
  have F16 := fun_mk (st := s_shows_least_register) l16 c16 k16
  have F17 := fun_mk (st := s__law_papers_hold) l17 c17 k17
  have F18 := fun_mk (st := s__law_register_row) l18 c18 k18
  have F19 := fun_mk (st := s__law_row) l19 c19 k19
  have F20 := fun_mk (st := s_Finder___init__) l20 c20 k20
  have F21 := fun_mk (st := s_inverse_number) l21 c21 k21
  have F22 := fun_mk (st := s_Finder_made) l22 c22 k22
  have F23 := fun_mk (st := s_Finder_first_taps) l23 c23 k23
  have F24 := fun_mk (st := s_Finder_take) l24 c24 k24
  have F25 := fun_mk (st := s_finder_of) l25 c25 k25
  have F26 := fun_mk (st := s_is_only) l26 c26 k26
  have F27 := fun_mk (st := s_least_register) l27 c27 k27
  have F28 := fun_mk (st := s_lengths_along) l28 c28 k28
  have F29 := fun_mk (st := s_register_row) l29 c29 k29
  have F30 := fun_mk (st := s_law) l30 c30 k30
  have m_abs := PySem.W.mg_none_of X G z_abs
  have m_all := PySem.W.mg_none_of X G z_all
  have m_any := PySem.W.mg_none_of X G z_any
  have m_bool := PySem.W.mg_none_of X G z_bool
  have m_enumerate := PySem.W.mg_none_of X G z_enumerate
  have m_int := PySem.W.mg_none_of X G z_int
  have m_isinstance := PySem.W.mg_none_of X G z_isinstance
  have m_len := PySem.W.mg_none_of X G z_len
  have m_list := PySem.W.mg_none_of X G z_list
  have m_max := PySem.W.mg_none_of X G z_max
  have m_range := PySem.W.mg_none_of X G z_range
  have m_str := PySem.W.mg_none_of X G z_str
  have m_sum := PySem.W.mg_none_of X G z_sum
  have m_tuple := PySem.W.mg_none_of X G z_tuple
  have m_zip := PySem.W.mg_none_of X G z_zip
  have g_MOST_TAPS : ∃ t, mg "MOST_TAPS" = some (Value.int 40 t) := ⟨_, PySem.W.mg_of X G zg_MOST_TAPS⟩
  have TX : Txt K mg C := ⟨⟨pg, hd, po, sa⟩, n_p, n_row, n_taps, n_before, PySem.W.mg_of X G aC, m_len⟩
  have MK : Mk K C f20 := ⟨mk, a20, i20, kc⟩
  refine ⟨PySem.W.fnOf "law" "law" (defArgs s_law) (defBody s_law) (defScope s_law) .none kV30 dc30 pm30 an30 cd30 ct30, fun s v => .of_eq rfl, fun base _ _ => ?_⟩
  have b1 := F1.binds (ps := ["told", "p"]) fun _ _ _ _ _ _ us hl => match us, hl with | [_, _], _ => rfl
  have o__law_are_numbers : Fn l.prog w K mg base fa0 1 "_law_are_numbers" 2 (pureF f__law_are_numbers) := ok__law_are_numbers F1 (PySem.W.mg_of X G a1) b1  m_bool m_int m_isinstance m_len m_list
  have b2 := F2.binds (ps := ["feed", "many"]) fun _ _ _ _ _ _ us hl => match us, hl with | [_, _], _ => rfl
  have o__law_draw : Fn l.prog w K mg base fa0 1 "_law_draw" 2 (feedF g__law_draw) := ok__law_draw F2 (PySem.W.mg_of X G a2) b2  m_abs m_int m_len
  have b3 := F3.binds (ps := ["feed", "p", "many"]) fun _ _ _ _ _ _ us hl => match us, hl with | [_, _, _], _ => rfl
  have o__law_drawn_numbers : Fn l.prog w K mg base fa0 2 "_law_drawn_numbers" 3 (feedF g__law_drawn_numbers) := ok__law_drawn_numbers F3 (PySem.W.mg_of X G a3) b3 (o__law_draw.mono (by decide)) m_range
  have b4 := F4.binds (ps := ["script"]) fun _ _ _ _ _ _ us hl => match us, hl with | [_], _ => rfl
  have o__law_feed : Fn l.prog w K mg base fa0 1 "_law_feed" 1 (pureF f__law_feed) := ok__law_feed F4 (PySem.W.mg_of X G a4) b4  m_list
  have b5 := F5.binds (ps := ["p", "row", "size"]) fun _ _ _ _ _ _ us hl => match us, hl with | [_, _, _], _ => rfl
  have o__law_no_register : Fn l.prog w K mg base fa0 1 "_law_no_register" 3 (pureF f__law_no_register) := ok__law_no_register F5 (PySem.W.mg_of X G a5) b5  m_int m_len m_range
  have b6 := F6.binds (ps := ["p", "row"]) fun _ _ _ _ _ _ us hl => match us, hl with | [_, _], _ => rfl
  have o__law_lengths : Fn l.prog w K mg base fa0 2 "_law_lengths" 2 (pureF f__law_lengths) := ok__law_lengths F6 (PySem.W.mg_of X G a6) b6 (o__law_no_register.mono (by decide)) m_len m_range
  have b7 := F7.binds (ps := ["told", "due"]) fun _ _ _ _ _ _ us hl => match us, hl with | [_, _], _ => rfl
  have r0__law_same : Fn l.prog w K mg base fa0 1 "_law_same" 2 (pureF (f__law_same 0)) := fn_none F7 sc__law_same (PySem.W.mg_of X G a7) b7
  have r1__law_same : Fn l.prog w K mg base fa0 2 "_law_same" 2 (pureF (f__law_same 1)) := ok__law_same (fr := f__law_same 0) F7 (PySem.W.mg_of X G a7) b7 r0__law_same m_bool m_int m_isinstance m_len m_list m_range m_str m_tuple
  have r2__law_same : Fn l.prog w K mg base fa0 3 "_law_same" 2 (pureF (f__law_same 2)) := ok__law_same (fr := f__law_same 1) F7 (PySem.W.mg_of X G a7) b7 r1__law_same m_bool m_int m_isinstance m_len m_list m_range m_str m_tuple
  have r3__law_same : Fn l.prog w K mg base fa0 4 "_law_same" 2 (pureF (f__law_same 3)) := ok__law_same (fr := f__law_same 2) F7 (PySem.W.mg_of X G a7) b7 r2__law_same m_bool m_int m_isinstance m_len m_list m_range m_str m_tuple
  have r4__law_same : Fn l.prog w K mg base fa0 5 "_law_same" 2 (pureF (f__law_same 4)) := ok__law_same (fr := f__law_same 3) F7 (PySem.W.mg_of X G a7) b7 r3__law_same m_bool m_int m_isinstance m_len m_list m_range m_str m_tuple
  have r5__law_same : Fn l.prog w K mg base fa0 6 "_law_same" 2 (pureF (f__law_same 5)) := ok__law_same (fr := f__law_same 4) F7 (PySem.W.mg_of X G a7) b7 r4__law_same m_bool m_int m_isinstance m_len m_list m_range m_str m_tuple
  have o__law_same := r5__law_same
  have b8 := F8.binds (ps := ["p", "row", "taps"]) fun _ _ _ _ _ _ us hl => match us, hl with | [_, _, _], _ => rfl
  have o__law_follows : Fn l.prog w K mg base fa0 1 "_law_follows" 3 (pureF f__law_follows) := ok__law_follows F8 (PySem.W.mg_of X G a8) b8  m_int m_len m_range m_sum
  have b9 := F9.binds (ps := ["p", "row", "taps", "other", "at"]) fun _ _ _ _ _ _ us hl => match us, hl with | [_, _, _, _, _], _ => rfl
  have o__law_shown : Fn l.prog w K mg base fa0 2 "_law_shown" 5 (pureF f__law_shown) := ok__law_shown F9 (PySem.W.mg_of X G a9) b9 (o__law_follows.mono (by decide)) m_len
  have b10 := F10.binds (ps := ["value"]) fun _ _ _ _ _ _ us hl => match us, hl with | [_], _ => rfl
  have o_is_whole : Fn l.prog w K mg base fa0 1 "is_whole" 1 (pureF f_is_whole) := ok_is_whole F10 (PySem.W.mg_of X G a10) b10  m_bool m_int m_isinstance
  have b11 := F11.binds (ps := ["value", "least", "most"]) fun _ _ _ _ _ _ us hl => match us, hl with | [_, _, _], _ => rfl
  have o_is_between : Fn l.prog w K mg base fa0 2 "is_between" 3 (pureF f_is_between) := ok_is_between F11 (PySem.W.mg_of X G a11) b11 (o_is_whole.mono (by decide)) 
  have b12 := F12.binds (ps := ["value", "least", "most"]) fun _ _ _ _ _ _ us hl => match us, hl with | [_, _, _], _ => rfl
  have o_are_between : Fn l.prog w K mg base fa0 3 "are_between" 3 (pureF f_are_between) := ok_are_between F12 (PySem.W.mg_of X G a12) b12 (o_is_between.mono (by decide)) m_all m_isinstance m_list
  have b13 := F13.binds (ps := ["p", "value"]) fun _ _ _ _ _ _ us hl => match us, hl with | [_, _], _ => rfl
  have o_are_taps : Fn l.prog w K mg base fa0 4 "are_taps" 2 (pureF f_are_taps) := ok_are_taps F13 (PySem.W.mg_of X G a13) b13 (o_are_between.mono (by decide)) m_len g_MOST_TAPS
  have b14 := F14.binds (ps := ["p", "taps", "row"]) fun _ _ _ _ _ _ us hl => match us, hl with | [_, _, _], _ => rfl
  have o_next_number : Fn l.prog w K mg base fa0 1 "next_number" 3 (pureF f_next_number) := ok_next_number F14 (PySem.W.mg_of X G a14) b14  m_enumerate m_len m_sum
  have b15 := F15.binds (ps := ["p", "taps", "row"]) fun _ _ _ _ _ _ us hl => match us, hl with | [_, _, _], _ => rfl
  have o_is_row_of : Fn l.prog w K mg base fa0 2 "is_row_of" 3 (pureF f_is_row_of) := ok_is_row_of F15 (PySem.W.mg_of X G a15) b15 (o_next_number.mono (by decide)) m_all m_len m_range
  have b16 := F16.binds (ps := ["p", "row", "taps", "other", "at"]) fun _ _ _ _ _ _ us hl => match us, hl with | [_, _, _, _, _], _ => rfl
  have o_shows_least_register : Fn l.prog w K mg base fa0 5 "shows_least_register" 5 (pureF f_shows_least_register) := ok_shows_least_register F16 (PySem.W.mg_of X G a16) b16 (o_are_taps.mono (by decide)) (o_is_between.mono (by decide)) (o_is_row_of.mono (by decide)) m_any m_len
  have b17 := F17.binds (ps := ["feed", "p", "row", "told"]) fun _ _ _ _ _ _ us hl => match us, hl with | [_, _, _, _], _ => rfl
  have o__law_papers_hold : Fn l.prog w K mg base fa0 7 "_law_papers_hold" 4 (feedF g__law_papers_hold) := ok__law_papers_hold F17 (PySem.W.mg_of X G a17) b17 (o__law_draw.mono (by decide)) (o__law_same.mono (by decide)) (o__law_shown.mono (by decide)) (o_shows_least_register.mono (by decide)) m_int m_len m_list m_range m_tuple
  have b18 := F18.binds (ps := ["p", "taps", "begun", "many"]) fun _ _ _ _ _ _ us hl => match us, hl with | [_, _, _, _], _ => rfl
  have o__law_register_row : Fn l.prog w K mg base fa0 1 "_law_register_row" 4 (pureF f__law_register_row) := ok__law_register_row F18 (PySem.W.mg_of X G a18) b18  m_int m_len m_list m_range m_sum
  have b19 := F19.binds (ps := ["feed", "p"]) fun _ _ _ _ _ _ us hl => match us, hl with | [_, _], _ => rfl
  have o__law_row : Fn l.prog w K mg base fa0 3 "_law_row" 2 (feedF g__law_row) := ok__law_row F19 (PySem.W.mg_of X G a19) b19 (o__law_draw.mono (by decide)) (o__law_drawn_numbers.mono (by decide)) (o__law_register_row.mono (by decide)) 
  have b20 := F20.binds (ps := ["self", "p"]) fun _ _ _ _ _ _ us hl => match us, hl with | [_, _], _ => rfl
  have o_Finder___init__ := ok_init (P := l.prog) (w := w) (base := base) (k := 0) F20 TX
  have b21 := F21.binds (ps := ["p", "k"]) fun _ _ _ _ _ _ us hl => match us, hl with | [_, _], _ => rfl
  have o_inverse_number : Fn l.prog w K mg base fa0 1 "inverse_number" 2 (pureF f_inverse_number) := ok_inverse_number F21 (PySem.W.mg_of X G a21) b21  m_range
  have b22 := F22.binds (ps := ["self", "off"]) fun _ _ _ _ _ _ us hl => match us, hl with | [_, _], _ => rfl
  have e22 : Meth K C "made" f22 := ⟨a22, i22, k22⟩
  have o_Finder_made : FnOk l.prog w K mg base CX0 2 f22 _ ["self", "off"] (spM K fa0 2 (pureF f_Finder_made)) := (ok_Finder_made (fa := fa0) (k := 1) F22 (o_inverse_number.mono (by decide)) m_len m_max m_zip).ok
  have b23 := F23.binds (ps := ["self", "at"]) fun _ _ _ _ _ _ us hl => match us, hl with | [_, _], _ => rfl
  have e23 : Meth K C "first_taps" f23 := ⟨a23, i23, k23⟩
  have o_Finder_first_taps : FnOk l.prog w K mg base CX0 1 f23 _ ["self", "at"] (spM K fa0 2 (pureF f_Finder_first_taps)) := (ok_Finder_first_taps (fa := fa0) (k := 0) F23  ).ok
  have b24 := F24.binds (ps := ["self", "number"]) fun _ _ _ _ _ _ us hl => match us, hl with | [_, _], _ => rfl
  have e24 : Meth K C "take" f24 := ⟨a24, i24, k24⟩
  have o_Finder_take := ok_take (P := l.prog) (w := w) (base := base) (fa := fa0) (k := 2) F24 TX (o_next_number.mono (by decide)) (o_Finder_made.mono (by decide)) b22 e22 (o_Finder_first_taps.mono (by decide)) b23 e23
  have b25 := F25.binds (ps := ["p", "row"]) fun _ _ _ _ _ _ us hl => match us, hl with | [_, _], _ => rfl
  have o_finder_of : Fn l.prog w K mg base fa0 5 "finder_of" 2 (pureF f_finder_of) := ok_finder_of (kI := 1) (k := 4) F25 (PySem.W.mg_of X G a25) b25 TX (by decide) MK (o_Finder___init__) b20 (o_Finder_take.mono (by decide)) b24 e24
  have b26 := F26.binds (ps := ["p", "row"]) fun _ _ _ _ _ _ us hl => match us, hl with | [_, _], _ => rfl
  have o_is_only : Fn l.prog w K mg base fa0 6 "is_only" 2 (pureF f_is_only) := ok_is_only F26 (PySem.W.mg_of X G a26) b26 (o_finder_of.mono (by decide)) m_len
  have b27 := F27.binds (ps := ["p", "row"]) fun _ _ _ _ _ _ us hl => match us, hl with | [_, _], _ => rfl
  have o_least_register : Fn l.prog w K mg base fa0 6 "least_register" 2 (pureF f_least_register) := ok_least_register F27 (PySem.W.mg_of X G a27) b27 (o_finder_of.mono (by decide)) m_list
  have b28 := F28.binds (ps := ["p", "row"]) fun _ _ _ _ _ _ us hl => match us, hl with | [_, _], _ => rfl
  have o_lengths_along : Fn l.prog w K mg base fa0 5 "lengths_along" 2 (pureF f_lengths_along) := ok_lengths_along (kI := 1) (k := 4) F28 (PySem.W.mg_of X G a28) b28 TX (by decide) MK (o_Finder___init__) b20 (o_Finder_take.mono (by decide)) b24 e24
  have b29 := F29.binds (ps := ["p", "taps", "begun", "many"]) fun _ _ _ _ _ _ us hl => match us, hl with | [_, _, _, _], _ => rfl
  have o_register_row : Fn l.prog w K mg base fa0 2 "register_row" 4 (pureF f_register_row) := ok_register_row F29 (PySem.W.mg_of X G a29) b29 (o_next_number.mono (by decide)) m_len m_list
  exact (ok_law F30 (o__law_are_numbers.mono (by decide)) (o__law_draw.mono (by decide)) (o__law_drawn_numbers.mono (by decide)) (o__law_feed.mono (by decide)) (o__law_lengths.mono (by decide)) (o__law_papers_hold.mono (by decide)) (o__law_register_row.mono (by decide)) (o__law_row.mono (by decide)) (o__law_same.mono (by decide)) (o__law_shown.mono (by decide)) (o_is_only.mono (by decide)) (o_least_register.mono (by decide)) (o_lengths_along.mono (by decide)) (o_register_row.mono (by decide)) m_bool m_int m_isinstance m_len m_list m_range m_tuple).ok
end LK
open PySem PySem.W PyProof.Rows
set_option maxHeartbeats 0 in
theorem PySem.Challenge.cw_latewords_k59_least_registers_holds : PySem.Challenge.rw_latewords_k59_least_registers.Holds := by
  w_on; o_law; k_head; (case hw => w_witness2)
  k_fill
  refine L2.walk_of (l := PySem.Challenge.rw_latewords_k59_least_registers) (n := 63) (k := 8) (x := "script") (CX := fun _ => L2.CX0) (sp := fun w => LK.spLaw _) rfl (by decide) rfl ⟨rfl, by decide, by decide⟩ (fun w h Y => PySem.W.kIn_of Y) ?F (fun _ _ a ns hl _ hS => LK.law_sp hS) (fun _ _ _ _ _ h => h)
  case F =>
    intro w mg fa h KX G hmg
    refine' LK.all_mk KX G hmg ?aC ?pg ?hd ?po ?sa ?mk ?kc ?n_p ?n_row ?n_taps ?n_before ?zg_MOST_TAPS ?a1 ?l1 ?c1 ?k1 ?a2 ?l2 ?c2 ?k2 ?a3 ?l3 ?c3 ?k3 ?a4 ?l4 ?c4 ?k4 ?a5 ?l5 ?c5 ?k5 ?a6 ?l6 ?c6 ?k6 ?a7 ?l7 ?c7 ?k7 ?a8 ?l8 ?c8 ?k8 ?a9 ?l9 ?c9 ?k9 ?a10 ?l10 ?c10 ?k10 ?a11 ?l11 ?c11 ?k11 ?a12 ?l12 ?c12 ?k12 ?a13 ?l13 ?c13 ?k13 ?a14 ?l14 ?c14 ?k14 ?a15 ?l15 ?c15 ?k15 ?a16 ?l16 ?c16 ?k16 ?a17 ?l17 ?c17 ?k17 ?a18 ?l18 ?c18 ?k18 ?a19 ?l19 ?c19 ?k19 ?a20 ?i20 ?l20 ?c20 ?k20 ?a21 ?l21 ?c21 ?k21 ?a22 ?i22 ?l22 ?c22 ?k22 ?a23 ?i23 ?l23 ?c23 ?k23 ?a24 ?i24 ?l24 ?c24 ?k24 ?a25 ?l25 ?c25 ?k25 ?a26 ?l26 ?c26 ?k26 ?a27 ?l27 ?c27 ?k27 ?a28 ?l28 ?c28 ?k28 ?a29 ?l29 ?c29 ?k29 ?a30 ?l30 ?c30 ?k30 ?z_abs ?z_all ?z_any ?z_bool ?z_enumerate ?z_int ?z_isinstance ?z_len ?z_list ?z_max ?z_range ?z_str ?z_sum ?z_tuple ?z_zip
    (case aC => k_is); (case pg => k_is); (case hd => k_is); (case po => k_is); (case sa => k_is); (case mk => k_is); (case kc => k_is); (case n_p => k_is); (case n_row => k_is); (case n_taps => k_is); (case n_before => k_is); (case zg_MOST_TAPS => k_is); (case a1 => k_is); (case l1 => k_is); (case c1 => k_is); (case k1 => k_is); (case a2 => k_is); (case l2 => k_is); (case c2 => k_is); (case k2 => k_is); (case a3 => k_is); (case l3 => k_is); (case c3 => k_is); (case k3 => k_is); (case a4 => k_is); (case l4 => k_is); (case c4 => k_is); (case k4 => k_is); (case a5 => k_is); (case l5 => k_is); (case c5 => k_is); (case k5 => k_is); (case a6 => k_is); (case l6 => k_is); (case c6 => k_is); (case k6 => k_is); (case a7 => k_is); (case l7 => k_is); (case c7 => k_is); (case k7 => k_is); (case a8 => k_is); (case l8 => k_is); (case c8 => k_is); (case k8 => k_is); (case a9 => k_is); (case l9 => k_is); (case c9 => k_is); (case k9 => k_is); (case a10 => k_is); (case l10 => k_is); (case c10 => k_is); (case k10 => k_is); (case a11 => k_is); (case l11 => k_is); (case c11 => k_is); (case k11 => k_is); (case a12 => k_is); (case l12 => k_is); (case c12 => k_is); (case k12 => k_is); (case a13 => k_is); (case l13 => k_is); (case c13 => k_is); (case k13 => k_is); (case a14 => k_is); (case l14 => k_is); (case c14 => k_is); (case k14 => k_is); (case a15 => k_is); (case l15 => k_is); (case c15 => k_is); (case k15 => k_is); (case a16 => k_is); (case l16 => k_is); (case c16 => k_is); (case k16 => k_is); (case a17 => k_is); (case l17 => k_is); (case c17 => k_is); (case k17 => k_is); (case a18 => k_is); (case l18 => k_is); (case c18 => k_is); (case k18 => k_is); (case a19 => k_is); (case l19 => k_is); (case c19 => k_is); (case k19 => k_is); (case a20 => k_is); (case i20 => k_is); (case l20 => k_is); (case c20 => k_is); (case k20 => k_is); (case a21 => k_is); (case l21 => k_is); (case c21 => k_is); (case k21 => k_is); (case a22 => k_is); (case i22 => k_is); (case l22 => k_is); (case c22 => k_is); (case k22 => k_is); (case a23 => k_is); (case i23 => k_is); (case l23 => k_is); (case c23 => k_is); (case k23 => k_is); (case a24 => k_is); (case i24 => k_is); (case l24 => k_is); (case c24 => k_is); (case k24 => k_is); (case a25 => k_is); (case l25 => k_is); (case c25 => k_is); (case k25 => k_is); (case a26 => k_is); (case l26 => k_is); (case c26 => k_is); (case k26 => k_is); (case a27 => k_is); (case l27 => k_is); (case c27 => k_is); (case k27 => k_is); (case a28 => k_is); (case l28 => k_is); (case c28 => k_is); (case k28 => k_is); (case a29 => k_is); (case l29 => k_is); (case c29 => k_is); (case k29 => k_is); (case a30 => k_is); (case l30 => k_is); (case c30 => k_is); (case k30 => k_is); (case z_abs => k_is); (case z_all => k_is); (case z_any => k_is); (case z_bool => k_is); (case z_enumerate => k_is); (case z_int => k_is); (case z_isinstance => k_is); (case z_len => k_is); (case z_list => k_is); (case z_max => k_is); (case z_range => k_is); (case z_str => k_is); (case z_sum => k_is); (case z_tuple => k_is); (case z_zip => k_is)
