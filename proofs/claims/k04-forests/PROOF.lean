import PyProof.Rows.All
import Wide.All
import OpenK.AllK
import Wide.FinOn
import HandS.ForMost
import HandS.Exc
import HandS.Wide
import KE.KEqNest
import HandS.DictEq
import KE.SortCalls
import PyProof.ReprReads
import PyProof.ReprRoads
import KE.DataEq
import HandS.DictComp
import HandS.TupLen
import KE.SortData
import HandS.More
import HandS.Conv
import KE.KDictCopyH
import KE.KDictKeyed
import KE.KDictItemsList
import PyProof.Rows.TupDisplay
import HandS.EndBits
import PySem.Challenge.RW_keysreach_k04_whole_forests_of_keys
set_option Elab.async false
set_option linter.all false
set_option maxRecDepth 100000
set_option maxHeartbeats 4000000
/-! VL1: plain values, how they lie in the tracked heap, the judgements of expressions. -/
namespace VL
open PySem PySem.Spec PyProof.Rows L2

/-! ### 1. plain values -/
inductive Val where
  | non | bl (b : Bool) | int (i : Int) | str (x : Str)
  | tup (xs : List Val) | lst (xs : List Val)
  /-- t: its keys are tuples -/
  | dic (t : Bool) (kvs : List (Val × Val))
  /-- a tuple of the written part -/
  | wtup (xs : List Val)
  /-- a list that nobody changes, in whichever part -/
  | wlst (xs : List Val)
  /-- an object of the written part, an instance: by its address -/
  | adr (a : Addr)

def kVal : Key → Val
  | .inl i => .int i
  | .inr x => .str x
def kK (p : Key × V) : Val × V := (kVal p.1, p.2)
def kT (p : List Key × V) : Val × V := (.tup (p.1.map kVal), p.2)
def Hp0 : Hp := fun _ => none

mutual
/-- w is the value v, all of it in the part F of the heap that is never changed -/
inductive Rep (K : PySem.W.Frag) (F : Hp) : V → Val → Prop
  | non : Rep K F .non .non
  | bl (b : Bool) : Rep K F (.bl b) (.bl b)
  | int (i : Int) : Rep K F (.int i) (.int i)
  | str (x : Str) : Rep K F (.str x) (.str x)
  | adr (a : Addr) : Rep K F (.ref a) (.adr a)
  | tup {a : Addr} {ws : List V} {vs : List Val} : F a = some (.tup ws) → Reps K F ws vs → Rep K F (.ref a) (.tup vs)
  | tupW {a : Addr} {ws : List V} {vs : List Val} : SqT K Hp0 a ws → Reps K F ws vs → Rep K F (.ref a) (.wtup vs)
  | lstW {a : Addr} {ws : List V} {vs : List Val} : SqL K F a ws → Reps K F ws vs → Rep K F (.ref a) (.wlst vs)
  | lst {a : Addr} {ws : List V} {vs : List Val} : F a = some (.lst ws) → Reps K F ws vs → Rep K F (.ref a) (.lst vs)
  | dK {a : Addr} {l : List (Key × V)} {kvs : List (Val × Val)} : Rd F a (.dK l) → RepP K F (l.map kK) kvs → Rep K F (.ref a) (.dic false kvs)
  | dT {a : Addr} {l : List (List Key × V)} {kvs : List (Val × Val)} : Rd F a (.dT l) → RepP K F (l.map kT) kvs → Rep K F (.ref a) (.dic true kvs)
inductive Reps (K : PySem.W.Frag) (F : Hp) : List V → List Val → Prop
  | nil : Reps K F [] []
  | cons {w : V} {ws : List V} {v : Val} {vs : List Val} : Rep K F w v → Reps K F ws vs → Reps K F (w :: ws) (v :: vs)
inductive RepP (K : PySem.W.Frag) (F : Hp) : List (Val × V) → List (Val × Val) → Prop
  | nil : RepP K F [] []
  | cons {k : Val} {w : V} {l : List (Val × V)} {v : Val} {kvs : List (Val × Val)} : Rep K F w v → RepP K F l kvs → RepP K F ((k, w) :: l) ((k, v) :: kvs)
end

def Sub (F F' : Hp) : Prop := ∀ a o, F a = some o → F' a = some o
theorem Sub.refl (F : Hp) : Sub F F := fun _ _ h => h
theorem Sub.trans {F F1 F2 : Hp} (a : Sub F F1) (b : Sub F1 F2) : Sub F F2 := fun c o h => b c o (a c o h)
theorem Sub.upd {F : Hp} {a : Addr} {o : HO} (h : F a = none) : Sub F (upd F a o) := fun b u e => by
  rw [upd_ne (ne_of_none e h)]; exact e
theorem Sub.rd {F F' : Hp} (s : Sub F F') {a : Addr} {u : HO} : Rd F a u → Rd F' a u
  | .inl h => .inl (s _ _ h)
  | .inr ⟨o, h⟩ => .inr ⟨o, s _ _ h⟩
theorem Sub.none {F F' : Hp} (s : Sub F F') {a : Addr} (h : F' a = none) : F a = none := by
  cases q : F a with
  | none => rfl
  | some o => rw [s a o q] at h; cases h

theorem Sub.seqL {K : PySem.W.Frag} {F F' : Hp} (s : Sub F F') {a : Addr} {ws : List V} : SqL K F a ws → SqL K F' a ws
  | .inl h => .inl (s.rd h)
  | .inr h => .inr h
section
variable {K : PySem.W.Frag}
mutual
theorem Rep.mono {F F' : Hp} (hs : Sub F F') : ∀ {w : V} {v : Val}, Rep K F w v → Rep K F' w v
  | _, _, .non => .non
  | _, _, .bl b => .bl b
  | _, _, .int i => .int i
  | _, _, .str x => .str x
  | _, _, .adr a => .adr a
  | _, _, .tup e r => .tup (hs _ _ e) (Reps.mono hs r)
  | _, _, .tupW e r => .tupW e (Reps.mono hs r)
  | _, _, .lstW e r => .lstW (hs.seqL e) (Reps.mono hs r)
  | _, _, .lst e r => .lst (hs _ _ e) (Reps.mono hs r)
  | _, _, .dK e r => .dK (hs.rd e) (RepP.mono hs r)
  | _, _, .dT e r => .dT (hs.rd e) (RepP.mono hs r)
theorem Reps.mono {F F' : Hp} (hs : Sub F F') : ∀ {ws : List V} {vs : List Val}, Reps K F ws vs → Reps K F' ws vs
  | _, _, .nil => .nil
  | _, _, .cons r t => .cons (Rep.mono hs r) (Reps.mono hs t)
theorem RepP.mono {F F' : Hp} (hs : Sub F F') : ∀ {l : List (Val × V)} {kvs : List (Val × Val)}, RepP K F l kvs → RepP K F' l kvs
  | _, _, .nil => .nil
  | _, _, .cons r t => .cons (Rep.mono hs r) (RepP.mono hs t)
end

/-! ### lists of values -/
variable {F : Hp}
theorem Reps.length : ∀ {ws : List V} {vs : List Val}, Reps K F ws vs → ws.length = vs.length
  | _, _, .nil => rfl
  | _, _, .cons _ t => by rw [List.length_cons, List.length_cons, Reps.length t]
theorem Reps.at : ∀ {ws : List V} {vs : List Val} {i : Nat} {w : V}, Reps K F ws vs → ws[i]? = some w → ∃ v, vs[i]? = some v ∧ Rep K F w v
  | _, _, i, _, .nil, e => by simp at e
  | _, _, 0, _, .cons r _, e => by simp at e; subst e; exact ⟨_, rfl, r⟩
  | _, _, i + 1, _, .cons _ t, e => by
    obtain ⟨v, h1, h2⟩ := Reps.at (i := i) t (by simpa using e)
    exact ⟨v, by simpa using h1, h2⟩
theorem Reps.at' : ∀ {ws : List V} {vs : List Val} {i : Nat} {v : Val}, Reps K F ws vs → vs[i]? = some v → ∃ w, ws[i]? = some w ∧ Rep K F w v
  | _, _, i, _, .nil, e => by simp at e
  | _, _, 0, _, .cons r _, e => by simp at e; subst e; exact ⟨_, rfl, r⟩
  | _, _, i + 1, _, .cons _ t, e => by
    obtain ⟨v, h1, h2⟩ := Reps.at' (i := i) t (by simpa using e)
    exact ⟨v, by simpa using h1, h2⟩
theorem Reps.append : ∀ {ws us : List V} {vs zs : List Val}, Reps K F ws vs → Reps K F us zs → Reps K F (ws ++ us) (vs ++ zs)
  | _, _, _, _, .nil, s => s
  | _, _, _, _, .cons r t, s => .cons r (Reps.append t s)
theorem Reps.set {w : V} {v : Val} (r : Rep K F w v) : ∀ {ws : List V} {vs : List Val} (i : Nat), Reps K F ws vs → Reps K F (ws.set i w) (vs.set i v)
  | _, _, _, .nil => .nil
  | _, _, 0, .cons _ t => .cons r t
  | _, _, i + 1, .cons q t => .cons q (Reps.set r i t)
theorem Reps.take : ∀ {ws : List V} {vs : List Val} (n : Nat), Reps K F ws vs → Reps K F (ws.take n) (vs.take n)
  | _, _, 0, _ => .nil
  | _, _, _ + 1, .nil => .nil
  | _, _, n + 1, .cons r t => .cons r (Reps.take n t)
theorem Reps.drop : ∀ {ws : List V} {vs : List Val} (n : Nat), Reps K F ws vs → Reps K F (ws.drop n) (vs.drop n)
  | _, _, 0, r => r
  | _, _, _ + 1, .nil => .nil
  | _, _, n + 1, .cons _ t => Reps.drop n t
theorem Reps.ints : ∀ (ns : List Int), Reps K F (ns.map V.int) (ns.map Val.int)
  | [] => .nil
  | n :: r => .cons (.int n) (Reps.ints r)
theorem RepP.length : ∀ {l : List (Val × V)} {kvs : List (Val × Val)}, RepP K F l kvs → l.length = kvs.length
  | _, _, .nil => rfl
  | _, _, .cons _ t => by rw [List.length_cons, List.length_cons, RepP.length t]
theorem RepP.keys : ∀ {l : List (Val × V)} {kvs : List (Val × Val)}, RepP K F l kvs → l.map (·.1) = kvs.map (·.1)
  | _, _, .nil => rfl
  | _, _, .cons _ t => by rw [List.map_cons, List.map_cons, RepP.keys t]
theorem Rep.seqL {xs : List Val} {w : V} (r : Rep K F w (.lst xs)) : ∃ a ws, w = .ref a ∧ F a = some (.lst ws) ∧ Reps K F ws xs := by
  cases r with
  | lst e r => exact ⟨_, _, rfl, e, r⟩
theorem Rep.seqT {xs : List Val} {w : V} (r : Rep K F w (.tup xs)) : ∃ a ws, w = .ref a ∧ F a = some (.tup ws) ∧ Reps K F ws xs := by
  cases r with
  | tup e r => exact ⟨_, _, rfl, e, r⟩
theorem Rep.seqW {xs : List Val} {w : V} (r : Rep K F w (.wtup xs)) : ∃ a ws, w = .ref a ∧ SqT K F a ws ∧ Reps K F ws xs := by
  cases r with
  | tupW e r =>
    refine ⟨_, _, rfl, ?_, r⟩
    rcases e with (e | ⟨o, e⟩) | e
    · cases e
    · cases e
    · exact .inr e
theorem Rep.seqV {xs : List Val} {w : V} (r : Rep K F w (.wlst xs)) : ∃ a ws, w = .ref a ∧ SqL K F a ws ∧ Reps K F ws xs := by
  cases r with
  | lstW e r => exact ⟨_, _, rfl, e, r⟩
theorem Sub.seqT {F F' : Hp} (s : Sub F F') {a : Addr} {ws : List V} : SqT K F a ws → SqT K F' a ws
  | .inl h => .inl (s.rd h)
  | .inr h => .inr h
end

/-! ### 2. variables: values that may be shared, and own lists and dicts -/
inductive OT where
  | sh (v : Val)
  | oL (xs : List Val)
  | oD (t : Bool) (kvs : List (Val × Val))
  /-- an own dict that is walked just now: read, not written -/
  | oR (t : Bool) (kvs : List (Val × Val))
  | oT (xs : List OT)

mutual
def OT.val : OT → Val
  | .sh v => v
  | .oL xs => .lst xs
  | .oD t kvs => .dic t kvs
  | .oR t kvs => .dic t kvs
  | .oT xs => .tup (OT.vals xs)
def OT.vals : List OT → List Val
  | [] => []
  | t :: r => t.val :: OT.vals r
end

mutual
/-- A: the addresses that are its own -/
inductive RepO (K : PySem.W.Frag) (F H : Hp) : (Addr → Prop) → V → OT → Prop
  | sh {A : Addr → Prop} {w : V} {v : Val} : Rep K F w v → RepO K F H A w (.sh v)
  | oL {A : Addr → Prop} {a : Addr} {ws : List V} {vs : List Val} : H a = some (.lst ws) → A a → Reps K F ws vs → RepO K F H A (.ref a) (.oL vs)
  | oK {A : Addr → Prop} {a : Addr} {l : List (Key × V)} {kvs : List (Val × Val)} : H a = some (.dK l) → A a → RepP K F (l.map kK) kvs → RepO K F H A (.ref a) (.oD false kvs)
  | oDT {A : Addr → Prop} {a : Addr} {l : List (List Key × V)} {kvs : List (Val × Val)} : H a = some (.dT l) → A a → RepP K F (l.map kT) kvs → RepO K F H A (.ref a) (.oD true kvs)
  | oRK {A : Addr → Prop} {a : Addr} {o : Obj} {l : List (Key × V)} {kvs : List (Val × Val)} : H a = some (.frz o (.dK l)) → A a → RepP K F (l.map kK) kvs → RepO K F H A (.ref a) (.oR false kvs)
  | oRT {A : Addr → Prop} {a : Addr} {o : Obj} {l : List (List Key × V)} {kvs : List (Val × Val)} : H a = some (.frz o (.dT l)) → A a → RepP K F (l.map kT) kvs → RepO K F H A (.ref a) (.oR true kvs)
  | oT {A : Addr → Prop} {a : Addr} {ws : List V} {xs : List OT} : F a = some (.tup ws) → RepOs K F H A ws xs → RepO K F H A (.ref a) (.oT xs)
inductive RepOs (K : PySem.W.Frag) (F H : Hp) : (Addr → Prop) → List V → List OT → Prop
  | nil {A : Addr → Prop} : RepOs K F H A [] []
  | cons {A A1 A2 : Addr → Prop} {w : V} {ws : List V} {t : OT} {ts : List OT} : RepO K F H A1 w t → RepOs K F H A2 ws ts → (∀ a, A1 a → A2 a → False) → (∀ a, A1 a → A a) → (∀ a, A2 a → A a) → RepOs K F H A (w :: ws) (t :: ts)
end
section
variable {K : PySem.W.Frag}
mutual
theorem RepO.mono {F F' H H' : Hp} (hs : Sub F F') : ∀ {A B : Addr → Prop} {w : V} {t : OT}, (∀ a, A a → B a) → (∀ a, A a → H' a = H a) → RepO K F H A w t → RepO K F' H' B w t
  | _, _, _, _, _, _, .sh r => .sh (r.mono hs)
  | _, _, _, _, hb, hk, .oL e a r => .oL ((hk _ a).trans e) (hb _ a) (r.mono hs)
  | _, _, _, _, hb, hk, .oK e a r => .oK ((hk _ a).trans e) (hb _ a) (r.mono hs)
  | _, _, _, _, hb, hk, .oDT e a r => .oDT ((hk _ a).trans e) (hb _ a) (r.mono hs)
  | _, _, _, _, hb, hk, .oRK e a r => .oRK ((hk _ a).trans e) (hb _ a) (r.mono hs)
  | _, _, _, _, hb, hk, .oRT e a r => .oRT ((hk _ a).trans e) (hb _ a) (r.mono hs)
  | _, _, _, _, hb, hk, .oT e r => .oT (hs _ _ e) (RepOs.mono hs hb hk r)
theorem RepOs.mono {F F' H H' : Hp} (hs : Sub F F') : ∀ {A B : Addr → Prop} {ws : List V} {ts : List OT}, (∀ a, A a → B a) → (∀ a, A a → H' a = H a) → RepOs K F H A ws ts → RepOs K F' H' B ws ts
  | _, _, _, _, _, _, .nil => .nil
  | _, _, _, _, hb, hk, .cons r t d h1 h2 => .cons (RepO.mono hs (fun _ z => z) (fun a z => hk a (h1 a z)) r) (RepOs.mono hs (fun _ z => z) (fun a z => hk a (h2 a z)) t) d (fun a z => hb a (h1 a z)) (fun a z => hb a (h2 a z))
end
mutual
/-- read, in any part B of the heap that has it all -/
theorem RepO.read {F H B : Hp} (hs : Sub F B) : ∀ {A : Addr → Prop} {w : V} {t : OT}, (∀ a, A a → B a = H a) → RepO K F H A w t → Rep K B w t.val
  | _, _, _, _, .sh r => r.mono hs
  | _, _, _, hk, .oL e a r => .lst ((hk _ a).trans e) (r.mono hs)
  | _, _, _, hk, .oK e a r => .dK (.inl ((hk _ a).trans e)) (r.mono hs)
  | _, _, _, hk, .oDT e a r => .dT (.inl ((hk _ a).trans e)) (r.mono hs)
  | _, _, _, hk, .oRK e a r => .dK (.inr ⟨_, (hk _ a).trans e⟩) (r.mono hs)
  | _, _, _, hk, .oRT e a r => .dT (.inr ⟨_, (hk _ a).trans e⟩) (r.mono hs)
  | _, _, _, hk, .oT e r => .tup (hs _ _ e) (RepOs.read hs hk r)
theorem RepOs.read {F H B : Hp} (hs : Sub F B) : ∀ {A : Addr → Prop} {ws : List V} {ts : List OT}, (∀ a, A a → B a = H a) → RepOs K F H A ws ts → Reps K B ws (OT.vals ts)
  | _, _, _, _, .nil => .nil
  | _, _, _, hk, .cons r t d h1 h2 => .cons (RepO.read hs (fun a z => hk a (h1 a z)) r) (RepOs.read hs (fun a z => hk a (h2 a z)) t)
end
end

/-! ### 3. worlds: what else may be changed (instances); the plain one has none -/
structure Wo where
  S : Type
  rel : Hp → Hp → S → (Addr → Prop) → Prop
  own : ∀ {F H s fp a}, rel F H s fp → fp a → F a = none ∧ (∃ o, H a = some o) ∧ ∀ ws, H a ≠ some (.tup ws)
  mono : ∀ {F H F' H' : Hp} {s : S} {fp : Addr → Prop}, rel F H s fp → Sub F F' → (∀ a, fp a → H' a = H a ∧ F' a = none) → rel F' H' s fp
def W0 : Wo where
  S := Unit
  rel := fun _ _ _ fp => ∀ a, ¬ fp a
  own := fun h z => absurd z (h _)
  mono := fun h _ _ => h

/-- the ghost: the part that never changes, what the world owns, what each variable owns -/
structure Gh where
  F : Hp
  fp : Addr → Prop
  ad : Nat → Addr → Prop

abbrev En := List (Option OT)

structure RelW (W : Wo) (G : Gh) (s : W.S) (H : Hp) : Prop where
  sub : Sub G.F H
  tups : ∀ a ws, H a = some (.tup ws) → G.F a = some (.tup ws)
  lk : ∀ a, (∀ l, G.F a ≠ some (.dK l)) ∧ ∀ l, G.F a ≠ some (.dT l)
  wrl : W.rel G.F H s G.fp
structure Rel (W : Wo) (K : PySem.W.Frag) (G : Gh) (ρ : En) (s : W.S) (σ : L2.St) (H : Hp) : Prop extends RelW W G s H where
  len : ρ.length = σ.length
  slot : ∀ i t, ρ[i]? = some (some t) → ∃ w, σ[i]? = some (some w) ∧ RepO K G.F H (G.ad i) w t
  own : ∀ i a, G.ad i a → G.F a = none ∧ (∃ o, H a = some o ∧ ∀ ws, o ≠ .tup ws) ∧ ¬ G.fp a
  dis : ∀ i j a, i ≠ j → G.ad i a → ¬ G.ad j a

/-- behind an expression -/
structure Nx (G G' : Gh) (H H' : Hp) : Prop where
  sub : Sub G.F G'.F
  keep : ∀ a o, H a = some o → ¬ G.fp a → H' a = some o
  there : ∀ a, H' a = none → H a = none
  ad : G'.ad = G.ad
  fp : ∀ a, G'.fp a → G.fp a ∨ H a = none
  fz : ∀ a o, G'.F a = some o → G.F a = some o ∨ H a = none ∨ G.fp a ∨ ∃ ws, o = .tup ws
theorem Nx.refl (G : Gh) (H : Hp) : Nx G G H H := ⟨Sub.refl _, fun _ _ h _ => h, fun _ h => h, rfl, fun _ h => .inl h, fun _ _ h => .inl h⟩
theorem Nx.trans {G G1 G2 : Gh} {H H1 H2 : Hp} (x : Nx G G1 H H1) (y : Nx G1 G2 H1 H2) : Nx G G2 H H2 where
  sub := x.sub.trans y.sub
  keep := fun a o e n => y.keep a o (x.keep a o e n) fun z => by
    rcases x.fp a z with q | q
    · exact n q
    · rw [e] at q; cases q
  there := fun a h => x.there a (y.there a h)
  ad := y.ad.trans x.ad
  fp := fun a z => by
    rcases y.fp a z with q | q
    · exact x.fp a q
    · exact .inr (x.there a q)
  fz := fun a o e => by
    rcases y.fz a o e with q | q | q | q
    · exact x.fz a o q
    · exact .inr (.inl (x.there a q))
    · rcases x.fp a q with r | r
      · exact .inr (.inr (.inl r))
      · exact .inr (.inl r)
    · exact .inr (.inr (.inr q))

section
variable {W : Wo} {K : PySem.W.Frag} {G G' : Gh} {ρ : En} {s s' : W.S} {σ : L2.St} {H H' : Hp}
theorem Rel.next (r : Rel W K G ρ s σ H) (x : Nx G G' H H') (rw' : RelW W G' s' H') : Rel W K G' ρ s' σ H' where
  toRelW := rw'
  len := r.len
  slot := fun i t e => by
    obtain ⟨w, h1, h2⟩ := r.slot i t e
    refine ⟨w, h1, h2.mono x.sub (fun a z => by rw [x.ad]; exact z) fun a z => ?_⟩
    obtain ⟨_, ⟨o, e, _⟩, n⟩ := r.own i a z
    rw [e]; exact x.keep a o e n
  own := fun i a z => by
    rw [x.ad] at z
    obtain ⟨h1, ⟨o, e, nt⟩, n⟩ := r.own i a z
    have e' := x.keep a o e n
    refine ⟨?_, ⟨o, e', nt⟩, fun q => ?_⟩
    · cases q : G'.F a with
      | none => rfl
      | some u =>
        rcases x.fz a u q with z' | z' | z' | ⟨ws, z'⟩
        · rw [h1] at z'; cases z'
        · rw [e] at z'; cases z'
        · exact absurd z' n
        · have := rw'.sub a u q
          rw [e'] at this
          cases this
          exact absurd z' (nt ws)
    · rcases x.fp a q with z' | z'
      · exact n z'
      · rw [e] at z'; cases z'
  dis := fun i j a h z => by rw [x.ad] at z ⊢; exact r.dis i j a h z
theorem RelW.free (r : RelW W G s H) {p : Addr} (hp : H p = none) : G.F p = none := r.sub.none hp
/-- a new object that nobody owns -/
theorem RelW.laid {p : Addr} {o : HO} (r : RelW W G s H) (hp : H p = none) (ht : ∀ ws, o ≠ .tup ws) : Nx G G H (upd H p o) ∧ RelW W G s (upd H p o) := by
  refine ⟨⟨Sub.refl _, fun a u e _ => by rw [upd_ne (ne_of_none e hp)]; exact e, fun a h => ?_, rfl, fun _ z => .inl z, fun _ _ e => .inl e⟩, fun a u e => ?_, fun a ws e => ?_, r.lk, ?_⟩
  · by_cases q : a = p
    · rw [q]; exact hp
    · rw [upd_ne q] at h; exact h
  · rw [upd_ne (ne_of_none (r.sub a u e) hp)]; exact r.sub a u e
  · by_cases q : a = p
    · rw [q, upd_same] at e; exact absurd (Option.some.inj e) (ht ws)
    · rw [upd_ne q] at e; exact r.tups a ws e
  · refine W.mono r.wrl (Sub.refl _) fun a z => ?_
    obtain ⟨h1, ⟨o', h2⟩, _⟩ := W.own r.wrl z
    exact ⟨upd_ne (ne_of_none h2 hp), h1⟩
/-- a new object, never to be changed -/
theorem RelW.fresh {p : Addr} {o : HO} (r : RelW W G s H) (hp : H p = none) (hl : (∀ l, o ≠ .dK l) ∧ ∀ l, o ≠ .dT l) : Nx G { G with F := upd G.F p o } H (upd H p o) ∧ RelW W { G with F := upd G.F p o } s (upd H p o) := by
  have hF : G.F p = none := r.free hp
  refine ⟨⟨Sub.upd hF, fun a u e _ => by rw [upd_ne (ne_of_none e hp)]; exact e, fun a h => ?_, rfl, fun _ z => .inl z, fun a u e => ?_⟩, fun a u e => ?_, fun a ws e => ?_, fun a => ?_, ?_⟩
  · by_cases q : a = p
    · rw [q]; exact hp
    · rw [upd_ne q] at h; exact h
  · by_cases q : a = p
    · subst q; exact .inr (.inl hp)
    · have e' : upd G.F p o a = some u := e
      rw [upd_ne q] at e'; exact .inl e'
  · have e' : upd G.F p o a = some u := e
    by_cases q : a = p
    · subst q; rw [upd_same] at e' ⊢; exact e'
    · rw [upd_ne q] at e' ⊢; exact r.sub a u e'
  · show upd G.F p o a = _
    by_cases q : a = p
    · subst q; rw [upd_same] at e ⊢; exact e
    · rw [upd_ne q] at e ⊢; exact r.tups a ws e
  · refine ⟨fun l e => ?_, fun l e => ?_⟩
    · have e' : upd G.F p o a = some (.dK l) := e
      by_cases q : a = p
      · subst q; rw [upd_same] at e'; exact hl.1 l (Option.some.inj e')
      · rw [upd_ne q] at e'; exact (r.lk a).1 l e'
    · have e' : upd G.F p o a = some (.dT l) := e
      by_cases q : a = p
      · subst q; rw [upd_same] at e'; exact hl.2 l (Option.some.inj e')
      · rw [upd_ne q] at e'; exact (r.lk a).2 l e'
  · refine W.mono r.wrl (Sub.upd hF) fun a z => ?_
    obtain ⟨h1, ⟨o', h2⟩, _⟩ := W.own r.wrl z
    have q : a ≠ p := ne_of_none h2 hp
    exact ⟨upd_ne q, by show upd G.F p o a = none; rw [upd_ne q]; exact h1⟩
/-- one's own object becomes one that is never changed -/
theorem RelW.freeze {p : Addr} {u o : HO} (r : RelW W G s H) (hp : H p = some u) (hn : G.F p = none) (hf : ¬ G.fp p) (hl : (∀ l, o ≠ .dK l) ∧ ∀ l, o ≠ .dT l) (ht : ∀ ws, o ≠ .tup ws) : RelW W { G with F := upd G.F p o } s (upd H p o) := by
  refine ⟨fun a u e => ?_, fun a ws e => ?_, fun a => ?_, ?_⟩
  · have e' : upd G.F p o a = some u := e
    by_cases q : a = p
    · subst q; rw [upd_same] at e' ⊢; exact e'
    · rw [upd_ne q] at e' ⊢; exact r.sub a u e'
  · show upd G.F p o a = _
    by_cases q : a = p
    · subst q; rw [upd_same] at e; exact absurd (Option.some.inj e) (ht ws)
    · rw [upd_ne q] at e ⊢; exact r.tups a ws e
  · refine ⟨fun l e => ?_, fun l e => ?_⟩
    · have e' : upd G.F p o a = some (.dK l) := e
      by_cases q : a = p
      · subst q; rw [upd_same] at e'; exact hl.1 l (Option.some.inj e')
      · rw [upd_ne q] at e'; exact (r.lk a).1 l e'
    · have e' : upd G.F p o a = some (.dT l) := e
      by_cases q : a = p
      · subst q; rw [upd_same] at e'; exact hl.2 l (Option.some.inj e')
      · rw [upd_ne q] at e'; exact (r.lk a).2 l e'
  · refine W.mono r.wrl (Sub.upd hn) fun a z => ?_
    have q : a ≠ p := fun e => hf (e ▸ z)
    exact ⟨upd_ne q, by show upd G.F p o a = none; rw [upd_ne q]; exact (W.own r.wrl z).1⟩
end

/-! ### 4. what comes of a reading -/
inductive R (S α : Type) where
  | ok (a : α) (s : S)
  | exc (c : Addr) (n : Int) (s : S)
  | bad
def R.bind {S α β : Type} (r : R S α) (f : α → S → R S β) : R S β := match r with
  | .ok a s => f a s
  | .exc c n s => .exc c n s
  | .bad => .bad
def R.opt {S α : Type} (o : Option α) (s : S) : R S α := match o with
  | some a => .ok a s
  | none => .bad
def R.map {S α β : Type} (f : α → β) (r : R S α) : R S β := match r with
  | .ok a s => .ok (f a) s
  | .exc c n s => .exc c n s
  | .bad => .bad
abbrev Sm (W : Wo) (α : Type) := En → W.S → R W.S α
abbrev Ev (W : Wo) := Sm W Val

def atF (n : Int) : List (Str × V) := [(("at" : Str), V.int n)]
abbrev RP (γ α : Type) := Gh → Hp → γ → α → Prop
/-- the end of an expression -/
def Pst {α γ : Type} (W : Wo) (K : PySem.W.Frag) (E : WX) (P : RP γ α) (G : Gh) (ρ : En) (σ : L2.St) (H : Hp) (r : R W.S α) (Q : γ → Hp → Prop) : Prop := match r with
  | .ok v s' => ∀ G' H' w, Nx G G' H H' → Rel W K G' ρ s' σ H' → P G' H' w v → Q w H'
  | .exc c n s' => ∀ G' H' d, Nx G G' H H' → Rel W K G' ρ s' σ H' → H' d = some (.xd (atF n)) → E (.ref c) (some d) σ H'
  | .bad => False
def tG {α γ : Type} (W : Wo) (K : PySem.W.Frag) (E : WX) (P : Hp → RP γ α) (f : Sm W α) (σ : L2.St) (H : Hp) (Q : γ → Hp → Prop) : Prop :=
  ∃ G ρ s, Rel W K G ρ s σ H ∧ Pst W K E (P H) G ρ σ H (f ρ s) Q

/-- a value in the part that never changes -/
def pV (K : PySem.W.Frag) : Hp → RP V Val := fun _ G _ w v => Rep K G.F w v
/-- a variable's value, or any value -/
def pP (K : PySem.W.Frag) : Hp → RP V OT := fun _ G H w t => ∃ A, RepO K G.F H A w t ∧ ∀ a, A a → ∃ i, G.ad i a
/-- what may be looked at -/
def pB (K : PySem.W.Frag) : Hp → RP V Val := fun _ G H w v => ∃ B, Sub B H ∧ (∀ a o, B a = some o → ¬ G.fp a) ∧ Rep K B w v
/-- a new value, its parts its own -/
def pF (K : PySem.W.Frag) : Hp → RP V OT := fun H0 G H w t => ∃ A, RepO K G.F H A w t ∧ ∀ a, A a → H0 a = none ∧ G.F a = none ∧ (∃ o, H a = some o ∧ ∀ ws, o ≠ .tup ws) ∧ ¬ G.fp a ∧ ∀ i, ¬ G.ad i a
def pT : Hp → RP Bool Bool := fun _ _ _ c b => c = b
def pVs (K : PySem.W.Frag) : Hp → RP (List V) (List Val) := fun _ G _ w v => Reps K G.F w v

/-- e is worth f: a value; a place; a thing to be looked at; a new thing; a test; arguments -/
def VE (W : Wo) (X : Cx) (E : WX) (e : Expr) (f : Ev W) : Prop := PE X e (tG W X.K E (pV X.K) f)
def VP (W : Wo) (X : Cx) (E : WX) (e : Expr) (f : Sm W OT) : Prop := PE X e (tG W X.K E (pP X.K) f)
def VB (W : Wo) (X : Cx) (E : WX) (e : Expr) (f : Ev W) : Prop := PE X e (tG W X.K E (pB X.K) f)
def VF (W : Wo) (X : Cx) (E : WX) (e : Expr) (f : Sm W OT) : Prop := PE X e (tG W X.K E (pF X.K) f)
def VT (W : Wo) (X : Cx) (E : WX) (e : Expr) (f : Sm W Bool) : Prop := PT X e (tG W X.K E pT f)
def VW (W : Wo) (X : Cx) (E : WX) (e : Expr) (f : Sm W Bool) : Prop := PW X e (tG W X.K E pT f)
def VA (W : Wo) (X : Cx) (E : WX) (es : List Expr) (f : Sm W (List Val)) : Prop := PA X es (tG W X.K E (pVs X.K) f)

theorem PE.imp {X : Cx} {e : Expr} {t t' : TE} (h : PE X e t) (i : ∀ σ H Q, t' σ H Q → t σ H Q) : PE X e t' := ⟨fun pins s σ H Q I z => h.run pins s σ H Q I (i σ H Q z)⟩
theorem PT.imp {X : Cx} {e : Expr} {t t' : TT} (h : PT X e t) (i : ∀ σ H Q, t' σ H Q → t σ H Q) : PT X e t' := ⟨fun pins s σ H Q I z => h.run pins s σ H Q I (i σ H Q z)⟩
theorem PW.imp {X : Cx} {e : Expr} {t t' : TT} (h : PW X e t) (i : ∀ σ H Q, t' σ H Q → t σ H Q) : PW X e t' := ⟨fun wh pins s σ H Q I z => h.run wh pins s σ H Q I (i σ H Q z)⟩
theorem PA.imp {X : Cx} {e : List Expr} {t t' : TA} (h : PA X e t) (i : ∀ σ H Q, t' σ H Q → t σ H Q) : PA X e t' := ⟨fun pos pins s σ H Q I z => h.run pos pins s σ H Q I (i σ H Q z)⟩

section
variable {W : Wo} {K : PySem.W.Frag} {E : WX} {G : Gh} {ρ : En} {s : W.S} {σ : L2.St} {H : Hp} {α β γ δ : Type}
theorem Pst.from {P : RP γ α} {G1 : Gh} {H1 : Hp} {r : R W.S α} {Q : γ → Hp → Prop} (x : Nx G G1 H H1) (h : Pst W K E P G ρ σ H r Q) : Pst W K E P G1 ρ σ H1 r Q := by
  cases r with
  | ok v s' => exact fun G' H' w y rel rp => h G' H' w (x.trans y) rel rp
  | exc c n s' => exact fun G' H' d y rel e => h G' H' d (x.trans y) rel e
  | bad => exact h
theorem Pst.imp {P P' : RP γ α} {r : R W.S α} {Q Q' : γ → Hp → Prop} (h : Pst W K E P G ρ σ H r Q) (hp : ∀ G' s' H' w v, Nx G G' H H' → Rel W K G' ρ s' σ H' → P' G' H' w v → P G' H' w v) (hq : ∀ w H', Q w H' → Q' w H') : Pst W K E P' G ρ σ H r Q' := by
  cases r with
  | ok v s' => exact fun G' H' w y rel rp => hq _ _ (h G' H' w y rel (hp _ _ _ _ _ y rel rp))
  | exc c n s' => exact h
  | bad => exact h
theorem Pst.mono {P : RP γ α} {r : R W.S α} {Q Q' : γ → Hp → Prop} (h : Pst W K E P G ρ σ H r Q) (hq : ∀ w H', Q w H' → Q' w H') : Pst W K E P G ρ σ H r Q' := h.imp (fun _ _ _ _ _ _ _ z => z) hq
/-- one value more is reckoned, then the rest -/
theorem Pst.bind {P : RP γ α} {P' : RP δ β} {f : α → W.S → R W.S β} {r : R W.S α} {Q : δ → Hp → Prop} (h : Pst W K E P' G ρ σ H (r.bind f) Q) :
    Pst W K E P G ρ σ H r fun w H1 => ∃ G1 s1 v, Nx G G1 H H1 ∧ Rel W K G1 ρ s1 σ H1 ∧ P G1 H1 w v ∧ Pst W K E P' G1 ρ σ H1 (f v s1) Q := by
  cases r with
  | ok v s' => exact fun G' H' w x rel rp => ⟨G', s', v, x, rel, rp, Pst.from x h⟩
  | exc c n s' => exact h
  | bad => exact h
/-- the answer is known -/
theorem Pst.done {P : RP γ α} {v : α} {Q : γ → Hp → Prop} {w : γ} (r : Rel W K G ρ s σ H) (h : Pst W K E P G ρ σ H (.ok v s) Q) (rp : P G H w v) : Q w H := h G H w (Nx.refl _ _) r rp
theorem tG.mk {P : Hp → RP γ α} {f : Sm W α} {Q : γ → Hp → Prop} (r : Rel W K G ρ s σ H) (h : Pst W K E (P H) G ρ σ H (f ρ s) Q) : tG W K E P f σ H Q := ⟨G, ρ, s, r, h⟩
/-- what is known of a value stays behind an expression -/
def Keeps (W : Wo) (K : PySem.W.Frag) (P : Hp → RP γ α) : Prop := ∀ {G G' : Gh} {ρ : En} {s s' : W.S} {σ : L2.St} {H0 H H' : Hp} {w : γ} {v : α}, Rel W K G ρ s σ H → Rel W K G' ρ s' σ H' → Nx G G' H H' → P H0 G H w v → P H0 G' H' w v
/-- what is known does not lean on where it began -/
def Back (P : Hp → RP γ α) : Prop := ∀ {H0 H1 : Hp} {G H w v}, (∀ a, H1 a = none → H0 a = none) → P H1 G H w v → P H0 G H w v
/-- the first one's reading, then the rest -/
theorem seq1 {P : Hp → RP γ α} {P' : Hp → RP δ β} {f : Sm W α} {g : α → Sm W β} {Q : δ → Hp → Prop} (hb : Back P') (h : tG W K E P' (fun ρ s => (f ρ s).bind fun v s1 => g v ρ s1) σ H Q) :
    tG W K E P f σ H fun w H1 => ∃ G ρ s v, Rel W K G ρ s σ H1 ∧ P H G H1 w v ∧ Pst W K E (P' H1) G ρ σ H1 (g v ρ s) Q := by
  obtain ⟨G, ρ, s, rel, h⟩ := h
  refine tG.mk rel (Pst.mono (Pst.bind (P := P H) h) fun w H1 ⟨G1, s1, v, x, r1, p, h1⟩ => ⟨G1, ρ, s1, v, r1, p, Pst.imp h1 (fun _ _ _ _ _ _ _ z => hb x.there z) fun _ _ z => z⟩)
/-- the first one, the second one, then the rest -/
theorem seq2 {ε ζ : Type} {P : Hp → RP γ α} {P' : Hp → RP δ β} {P2 : Hp → RP ε ζ} {f : Sm W α} {f2 : Sm W β} {g : α → β → Sm W ζ} {Q : ε → Hp → Prop} (hb : Back P2) (hk : Keeps W K P)
    (h : tG W K E P2 (fun ρ s => (f ρ s).bind fun v s1 => (f2 ρ s1).bind fun u s2 => g v u ρ s2) σ H Q) :
    tG W K E P f σ H fun w H1 => tG W K E P' f2 σ H1 fun z H2 => ∃ G ρ s v u, Rel W K G ρ s σ H2 ∧ P H G H2 w v ∧ P' H1 G H2 z u ∧ Pst W K E (P2 H2) G ρ σ H2 (g v u ρ s) Q := by
  obtain ⟨G, ρ, s, rel, h⟩ := h
  refine tG.mk rel (Pst.mono (Pst.bind (P := P H) h) ?_)
  rintro w H1 ⟨G1, s1, v, x, r1, p, h1⟩
  refine ⟨G1, ρ, s1, r1, ?_⟩
  refine Pst.mono (Pst.bind (P := P' H1) h1) ?_
  rintro z H2 ⟨G2, s2, u, x2, r2, p2, h2⟩
  exact ⟨G2, ρ, s2, v, u, r2, hk r1 r2 x2 p, p2, Pst.imp h2 (fun _ _ _ _ _ _ _ z => hb (x.trans x2).there z) fun _ _ z => z⟩
theorem R.bind_opt {o : Option α} {f : α → W.S → R W.S β} : (R.opt o s).bind f = match o with
    | some v => f v s
    | none => .bad := by cases o <;> rfl
end

section
variable {W : Wo} {K : PySem.W.Frag}
theorem pV.keeps : Keeps W K (pV K) := fun _ _ x p => Rep.mono x.sub p
theorem pVs.keeps : Keeps W K (pVs K) := fun _ _ x p => Reps.mono x.sub p
theorem pT.keeps : Keeps W K pT := fun _ _ _ p => p
theorem pB.keeps : Keeps W K (pB K) := by
  rintro G G' ρ s s' σ H0 H H' w v _ _ x ⟨B, h1, h2, r⟩
  refine ⟨B, fun a o e => x.keep a o (h1 a o e) (h2 a o e), fun a o e z => ?_, r⟩
  rcases x.fp a z with q | q
  · exact h2 a o e q
  · rw [h1 a o e] at q; cases q
theorem pP.keeps : Keeps W K (pP K) := by
  rintro G G' ρ s s' σ H0 H H' w v rel _ x ⟨A, r, h⟩
  refine ⟨A, r.mono x.sub (fun _ z => z) (fun a z => ?_), fun a z => by rw [x.ad]; exact h a z⟩
  obtain ⟨i, hi⟩ := h a z
  obtain ⟨_, ⟨o, e, _⟩, n⟩ := rel.own i a hi
  rw [e]; exact x.keep a o e n
theorem pF.keeps : Keeps W K (pF K) := by
  rintro G G' ρ s s' σ H0 H H' w v rel rel' x ⟨A, r, h⟩
  refine ⟨A, r.mono x.sub (fun _ z => z) (fun a z => ?_), fun a z => ?_⟩
  · obtain ⟨_, _, ⟨o, e, _⟩, n, _⟩ := h a z
    rw [e]; exact x.keep a o e n
  · obtain ⟨h0, h1, ⟨o, e, nt⟩, n, na⟩ := h a z
    have e' := x.keep a o e n
    refine ⟨h0, ?_, ⟨o, e', nt⟩, fun q => ?_, fun i => by rw [x.ad]; exact na i⟩
    · cases q : G'.F a with
      | none => rfl
      | some u =>
        rcases x.fz a u q with z' | z' | z' | ⟨ws, z'⟩
        · rw [h1] at z'; cases z'
        · rw [e] at z'; cases z'
        · exact absurd z' n
        · have q' := rel'.sub a u q
          rw [e'] at q'
          cases q'
          exact absurd z' (nt ws)
    · rcases x.fp a q with z' | z'
      · exact n z'
      · rw [e] at z'; cases z'
theorem pV.back : Back (pV K) := fun _ p => p
theorem pVs.back : Back (pVs K) := fun _ p => p
theorem pT.back : Back pT := fun _ p => p
theorem pB.back : Back (pB K) := fun _ p => p
theorem pP.back : Back (pP K) := fun _ p => p
theorem pF.back : Back (pF K) := fun h ⟨A, r, z⟩ => ⟨A, r, fun a q => ⟨h a (z a q).1, (z a q).2⟩⟩
end
end VL

/-! VL2: the rules of expressions. -/
namespace VL
open PySem PySem.Spec PyProof.Rows L2
open Classical in
/-- the heap without what the world owns -/
noncomputable def offW (G : Gh) (H : Hp) : Hp := fun a => if G.fp a then none else H a
theorem offW_at {G : Gh} {H : Hp} {a : Addr} (h : ¬ G.fp a) : offW G H a = H a := by unfold offW; rw [if_neg h]
theorem offW_some {G : Gh} {H : Hp} {a : Addr} {o : HO} (h : offW G H a = some o) : H a = some o ∧ ¬ G.fp a := by
  unfold offW at h
  split at h
  · cases h
  · exact ⟨h, by assumption⟩

section
variable {W : Wo} {X : Cx} {E : WX}
/-! ### 1. names, constants -/
def eC (v : Val) : Ev W := fun _ s => .ok v s
def pVar (i : Nat) : Sm W OT := fun ρ s => match ρ[i]? with
  | some (some t) => .ok t s
  | _ => .bad
def OT.shv : OT → Option Val
  | .sh v => some v
  | _ => none
/-- a place whose value may be shared -/
def eP (p : Sm W OT) : Ev W := fun ρ s => (p ρ s).bind fun t s1 => R.opt t.shv s1
def bP (p : Sm W OT) : Ev W := fun ρ s => (p ρ s).bind fun t s1 => .ok t.val s1
theorem vp_var (i : Nat) {x : Str} {pos : Pos} (hN : X.N[i]? = some x := by rfl) (hv : Vis X.env.scope x := by first | exact Or.inl rfl | exact Or.inr (Or.inl rfl) | exact Or.inr (Or.inr rfl)) (hd : (x == ("__debug__" : Str)) = false := by decide)
    (hcd : (x == ("__classdict__" : Str)) = false := by decide) : VP W X E (.Name x pos) (pVar i) := by
  refine PE.imp (pe_var (i := i) hN hv hd hcd) fun σ H Q ⟨G, ρ, s, r, h⟩ => ?_
  unfold pVar at h
  cases q : ρ[i]? with
  | none => rw [q] at h; exact h.elim
  | some t =>
    cases t with
    | none => rw [q] at h; exact h.elim
    | some t =>
      rw [q] at h
      obtain ⟨w, h1, h2⟩ := r.slot i _ q
      exact ⟨w, h1, h.done r ⟨_, h2, fun a z => ⟨i, z⟩⟩⟩
theorem ve_p {e : Expr} {p : Sm W OT} (h : VP W X E e p) : VE W X E e (eP p) := PE.imp h fun σ H Q hq => by
  obtain ⟨G, ρ, s, r, hq⟩ := seq1 (P := pP X.K) (P' := pV X.K) (f := p) (g := fun t _ s1 => R.opt t.shv s1) pV.back hq
  refine ⟨G, ρ, s, r, Pst.mono hq ?_⟩
  rintro w H1 ⟨G1, ρ1, s1, t, r1, ⟨A, ro, hA⟩, hq⟩
  cases ro with
  | sh rp => exact hq.done r1 rp
  | _ => exact hq.elim
theorem vb_p {e : Expr} {p : Sm W OT} (h : VP W X E e p) : VB W X E e (bP p) := PE.imp h fun σ H Q hq => by
  obtain ⟨G, ρ, s, r, hq⟩ := seq1 (P := pP X.K) (P' := pB X.K) (f := p) (g := fun t _ s1 => .ok t.val s1) pB.back hq
  refine ⟨G, ρ, s, r, Pst.mono hq ?_⟩
  rintro w H1 ⟨G1, ρ1, s1, t, r1, ⟨A, ro, hA⟩, hq⟩
  refine hq.done r1 ⟨offW G1 H1, fun a o e => (offW_some e).1, fun a o e => (offW_some e).2, ro.read (fun a o e => ?_) fun a z => ?_⟩
  · rw [offW_at]
    · exact r1.sub a o e
    · intro z
      rw [(W.own r1.wrl z).1] at e; cases e
  · obtain ⟨i, hi⟩ := hA a z
    exact offW_at (r1.own i a hi).2.2
theorem vb_of {e : Expr} {f : Ev W} (h : VE W X E e f) : VB W X E e f := PE.imp h fun σ H Q ⟨G, ρ, s, r, hq⟩ => by
  refine ⟨G, ρ, s, r, Pst.imp hq (fun G1 s1 H1 w v x r1 rp => ⟨G1.F, r1.sub, fun a o e z => ?_, rp⟩) fun _ _ z => z⟩
  rw [(W.own r1.wrl z).1] at e; cases e
theorem ve_int {i : Int} {j : Nat} {pos : Pos} : VE W X E (.Constant (.int i) j pos) (eC (.int i)) := PE.imp pe_int fun σ H Q ⟨G, ρ, s, r, h⟩ => Pst.done r h (.int i)
theorem ve_bl {b : Bool} {j : Nat} {pos : Pos} : VE W X E (.Constant (.bool b) j pos) (eC (.bl b)) := PE.imp pe_bl fun σ H Q ⟨G, ρ, s, r, h⟩ => Pst.done r h (.bl b)
theorem ve_non {j : Nat} {pos : Pos} : VE W X E (.Constant .none j pos) (eC .non) := PE.imp pe_non fun σ H Q ⟨G, ρ, s, r, h⟩ => Pst.done r h .non
theorem ve_str {x : Str} {j : Nat} {pos : Pos} : VE W X E (.Constant (.str x) j pos) (eC (.str x)) := PE.imp pe_str fun σ H Q ⟨G, ρ, s, r, h⟩ => Pst.done r h (.str x)
/-- a constant of the module -/
theorem ve_glob {x : Str} {w : V} {u : Value} {v : Val} {pos : Pos} (hg : Gl X x) (hm : X.mg x = some u) (r : RelV w u) (rp : ∀ F, Rep X.K F w v) (hd : (x == ("__debug__" : Str)) = false := by decide) : VE W X E (.Name x pos) (eC v) :=
  PE.imp (pe_glob hg hm r hd) fun σ H Q ⟨G, ρ, s, r, h⟩ => Pst.done r h (rp _)
/-- a class of the language -/
theorem ve_bltn {x : Str} {w : V} {u : Value} {v : Val} {pos : Pos} (hg : Gl X x) (hm : X.mg x = none) (hv : bootBuiltins x = some u) (r : RelV w u) (rp : ∀ F, Rep X.K F w v) (hn : x ≠ "__name__" := by decide) (hd : (x == ("__debug__" : Str)) = false := by decide) : VE W X E (.Name x pos) (eC v) :=
  PE.imp (pe_bltn hg hm hv r hn hd) fun σ H Q ⟨G, ρ, s, r, h⟩ => Pst.done r h (rp _)

/-! ### 2. operators -/
def e2 (g : Val → Val → Option Val) (a b : Ev W) : Ev W := fun ρ s => (a ρ s).bind fun x s1 => (b ρ s1).bind fun y s2 => R.opt (g x y) s2
def e1 (g : Val → Option Val) (a : Ev W) : Ev W := fun ρ s => (a ρ s).bind fun x s1 => R.opt (g x) s1
theorem Pst.opt {α γ : Type} {K : PySem.W.Frag} {P : RP γ α} {G : Gh} {ρ : En} {σ : L2.St} {H : Hp} {s : W.S} {o : Option α} {Q : γ → Hp → Prop} (h : Pst W K E P G ρ σ H (R.opt o s) Q) : ∃ v, o = some v ∧ Pst W K E P G ρ σ H (.ok v s) Q := by
  cases o with
  | none => exact h.elim
  | some v => exact ⟨v, rfl, h⟩
/-- an operator by what its rule asks: no new object comes -/
def Flat2 (K : PySem.W.Frag) (r : R2) (g : Val → Val → Option Val) : Prop := ∀ (B H : Hp) (w u : V) (x y v : Val) (Q : VK), Sub B H → Rep K B w x → Rep K B u y → g x y = some v → (∀ z, (∀ F, Rep K F z v) → Q z H) → r w u H Q
theorem Rep.two {K : PySem.W.Frag} {G : Gh} {H : Hp} {w u : V} {x y : Val} (h1 : pB K H G H w x) (h2 : pB K H G H u y) : ∃ B, Sub B H ∧ Rep K B w x ∧ Rep K B u y := by
  obtain ⟨B1, s1, n1, r1⟩ := h1
  obtain ⟨B2, s2, n2, r2⟩ := h2
  exact ⟨H, Sub.refl _, r1.mono s1, r2.mono s2⟩
theorem tG.mono {α γ : Type} {K : PySem.W.Frag} {P : Hp → RP γ α} {f : Sm W α} {σ : L2.St} {H : Hp} {Q Q' : γ → Hp → Prop} (h : tG W K E P f σ H Q) (hq : ∀ w H', Q w H' → Q' w H') : tG W K E P f σ H Q' := by
  obtain ⟨G, ρ, s, r, h⟩ := h
  exact ⟨G, ρ, s, r, h.mono hq⟩
/-- .. two operands, in any rule -/
theorem two_run {r : R2} {g : Val → Val → Option Val} {fa fb : Ev W} {σ : L2.St} {H : Hp} {Q : VK} (hr : Flat2 X.K r g) (h : tG W X.K E (pV X.K) (e2 g fa fb) σ H Q) :
    tG W X.K E (pB X.K) fa σ H fun w H1 => tG W X.K E (pB X.K) fb σ H1 fun u H2 => r w u H2 Q := by
  have h' := seq2 (P := pB X.K) (P' := pB X.K) (P2 := pV X.K) (g := fun x y _ s2 => R.opt (g x y) s2) pV.back pB.keeps h
  refine h'.mono fun w H1 h' => h'.mono ?_
  rintro u H2 ⟨G, ρ, s, x, y, rl, p1, p2, h'⟩
  obtain ⟨v, e, h'⟩ := Pst.opt h'
  obtain ⟨B, sb, r1, r2⟩ := Rep.two p1 p2
  exact hr B H2 w u x y v Q sb r1 r2 e fun z rz => h'.done rl (rz _)
theorem vop {op : Operator} {r : R2} {g : Val → Val → Option Val} {a b : Expr} {fa fb : Ev W} {pos : Pos} (ho : OpR X (binaryOp op) r) (hr : Flat2 X.K r g) (ha : VB W X E a fa) (hb : VB W X E b fb) : VE W X E (.BinOp a op b pos) (e2 g fa fb) :=
  PE.imp (pe_op ho ha hb) fun _ _ _ h => two_run hr h
def tst (f : Ev W) : Sm W Bool := fun ρ s => (f ρ s).bind fun v s1 => match v with
  | .bl b => .ok b s1
  | _ => .bad
theorem tst_val {f : Ev W} {σ : L2.St} {H : Hp} {Q : Bool → Hp → Prop} (h : tG W X.K E pT (tst f) σ H Q) : tG W X.K E (pV X.K) f σ H fun w H1 => ∃ k, w = .bl k ∧ Q k H1 := by
  have h' := seq1 (P := pV X.K) (P' := pT) (f := f) (g := fun v _ s1 => match v with | .bl b => .ok b s1 | _ => .bad) pT.back h
  refine h'.mono ?_
  rintro w H1 ⟨G, ρ, s, v, r, p, h'⟩
  cases v with
  | bl b =>
    cases p
    exact ⟨b, rfl, h'.done r rfl⟩
  | _ => exact h'.elim
/-- a comparison, as a value and as a test -/
def VC (W : Wo) (X : Cx) (E : WX) (op : CmpOp) (a b : Expr) (f : Ev W) : Prop := (∀ pos, VE W X E (.Compare a [op] [b] pos) f) ∧ ∀ pos, VT W X E (.Compare a [op] [b] pos) (tst f)
theorem vcmp {op : CmpOp} {r : R2} {g : Val → Val → Option Val} {a b : Expr} {fa fb : Ev W} (ho : OpR X (compareOp op) r) (hr : Flat2 X.K r g) (ha : VB W X E a fa) (hb : VB W X E b fb) (hm : behindInMarks op b = false) : VC W X E op a b (e2 g fa fb) :=
  ⟨fun _ => PE.imp (pe_cmpR ho ha hb hm) fun _ _ _ h => two_run hr h, fun _ => PT.imp (pt_cmpR ho ha hb hm) fun _ _ _ h => two_run hr (tst_val h)⟩
theorem ve_cmp {op : CmpOp} {a b : Expr} {f : Ev W} {pos : Pos} (h : VC W X E op a b f) : VE W X E (.Compare a [op] [b] pos) f := h.1 pos
theorem vt_cmp {op : CmpOp} {a b : Expr} {f : Ev W} {pos : Pos} (h : VC W X E op a b f) : VT W X E (.Compare a [op] [b] pos) (tst f) := h.2 pos

/-! ### 3. whole numbers -/
def oI (C : Int → Int → Bool) (g : Int → Int → Int) : Val → Val → Option Val
  | .int i, .int j => if C i j then some (.int (g i j)) else none
  | _, _ => none
def oB (g : Int → Int → Bool) : Val → Val → Option Val
  | .int i, .int j => some (.bl (g i j))
  | _, _ => none
theorem Rep.int_inv {K : PySem.W.Frag} {B : Hp} {w : V} {i : Int} (r : Rep K B w (.int i)) : w = .int i := by cases r; rfl
theorem Rep.bl_inv {K : PySem.W.Frag} {B : Hp} {w : V} {i : Bool} (r : Rep K B w (.bl i)) : w = .bl i := by cases r; rfl
theorem Rep.str_inv {K : PySem.W.Frag} {B : Hp} {w : V} {i : Str} (r : Rep K B w (.str i)) : w = .str i := by cases r; rfl
theorem Rep.non_inv {K : PySem.W.Frag} {B : Hp} {w : V} (r : Rep K B w .non) : w = .non := by cases r; rfl
theorem flat_I {C : Int → Int → Prop} {c : Int → Int → Bool} {g : Int → Int → Int} {K : PySem.W.Frag} (hc : ∀ i j, c i j = true → C i j) : Flat2 K (rI C fun i j => .int (g i j)) (oI c g) := by
  intro B H w u x y v Q sb r1 r2 e q
  unfold oI at e
  split at e
  · split at e
    · cases e
      cases r1.int_inv; cases r2.int_inv
      exact ⟨_, _, rfl, rfl, hc _ _ (by assumption), q _ fun F => .int _⟩
    · cases e
  · cases e
theorem flat_I0 {g : Int → Int → Int} {K : PySem.W.Frag} : Flat2 K (rI0 fun i j => .int (g i j)) (oI (fun _ _ => true) g) := by
  intro B H w u x y v Q sb r1 r2 e q
  unfold oI at e
  split at e
  · cases e
    cases r1.int_inv; cases r2.int_inv
    exact ⟨_, _, rfl, rfl, q _ fun F => .int _⟩
  · cases e
theorem flat_B {g : Int → Int → Bool} {K : PySem.W.Frag} : Flat2 K (rI0 fun i j => .bl (g i j)) (oB g) := by
  intro B H w u x y v Q sb r1 r2 e q
  unfold oB at e
  split at e
  · cases e
    cases r1.int_inv; cases r2.int_inv
    exact ⟨_, _, rfl, rfl, q _ fun F => .bl _⟩
  · cases e
def cMul (i j : Int) : Bool := decide (i.natAbs.log2 + j.natAbs.log2 < 1000000)
def cDiv (_ j : Int) : Bool := decide (0 < j) && decide (j.natAbs.log2 < 9000)
def cMod (_ j : Int) : Bool := decide (0 < j)
def cPow (i j : Int) : Bool := decide (0 ≤ j) && decide (j ≤ 1000000) && decide (i.natAbs < 2 ^ 64)
def gAdd := oI (fun _ _ => true) fun i j => i + j
def gSub := oI (fun _ _ => true) fun i j => i - j
def gMul := oI cMul fun i j => i * j
def gDiv := oI cDiv fun i j => i / j
def gMod := oI cMod fun i j => i % j
def gPow := oI cPow fun i j => i ^ j.toNat
variable {a b : Expr} {fa fb : Ev W} {pos : Pos}
theorem ve_add (ha : VB W X E a fa) (hb : VB W X E b fb) : VE W X E (.BinOp a .Add b pos) (e2 gAdd fa fb) := vop op_add flat_I0 ha hb
theorem ve_sub (ha : VB W X E a fa) (hb : VB W X E b fb) : VE W X E (.BinOp a .Sub b pos) (e2 gSub fa fb) := vop op_sub flat_I0 ha hb
theorem ve_mul (ha : VB W X E a fa) (hb : VB W X E b fb) : VE W X E (.BinOp a .Mult b pos) (e2 gMul fa fb) := vop op_mulW (flat_I fun i j h => show CMulW i j from of_decide_eq_true (p := i.natAbs.log2 + j.natAbs.log2 < 1000000) h) ha hb
theorem ve_div (ha : VB W X E a fa) (hb : VB W X E b fb) : VE W X E (.BinOp a .FloorDiv b pos) (e2 gDiv fa fb) := vop op_fdivW (flat_I fun _ _ h => by
  unfold cDiv at h
  rw [Bool.and_eq_true] at h
  exact ⟨of_decide_eq_true h.1, of_decide_eq_true h.2⟩) ha hb
theorem ve_mod (ha : VB W X E a fa) (hb : VB W X E b fb) : VE W X E (.BinOp a .Mod b pos) (e2 gMod fa fb) := vop op_mod (flat_I fun _ _ h => of_decide_eq_true h) ha hb
theorem ve_pow (ha : VB W X E a fa) (hb : VB W X E b fb) : VE W X E (.BinOp a .Pow b pos) (e2 gPow fa fb) := vop op_pow (flat_I fun _ _ h => by
  unfold cPow at h
  rw [Bool.and_eq_true, Bool.and_eq_true] at h
  exact ⟨of_decide_eq_true h.1.1, of_decide_eq_true h.1.2, of_decide_eq_true h.2⟩) ha hb
def gLt := oB fun i j => decide (i < j)
def gLe := oB fun i j => decide (i ≤ j)
def gGt := oB fun i j => decide (j < i)
def gGe := oB fun i j => decide (j ≤ i)
theorem vc_lt (ha : VB W X E a fa) (hb : VB W X E b fb) : VC W X E .Lt a b (e2 gLt fa fb) := vcmp op_lt flat_B ha hb (nomark _)
theorem vc_le (ha : VB W X E a fa) (hb : VB W X E b fb) : VC W X E .LtE a b (e2 gLe fa fb) := vcmp op_le flat_B ha hb (nomark _)
theorem vc_gt (ha : VB W X E a fa) (hb : VB W X E b fb) : VC W X E .Gt a b (e2 gGt fa fb) := vcmp op_gt flat_B ha hb (nomark _)
theorem vc_ge (ha : VB W X E a fa) (hb : VB W X E b fb) : VC W X E .GtE a b (e2 gGe fa fb) := vcmp op_ge flat_B ha hb (nomark _)
/-- is None, is not None -/
def Val.isN : Val → Bool
  | .non => true
  | _ => false
def gIsN (neg : Bool) (x y : Val) : Option Val := if y.isN then some (.bl (x.isN != neg)) else none
theorem Rep.isN {K : PySem.W.Frag} {B : Hp} {w : V} {v : Val} (r : Rep K B w v) : decide (w = .non) = v.isN := by cases r <;> rfl
theorem vc_isN {j : Nat} {p : Pos} (ha : VB W X E a fa) : VC W X E .Is a (.Constant .none j p) (e2 (gIsN false) fa (eC .non)) := vcmp op_isN (fun B H w u x y v Q sb r1 r2 e q => by
  unfold gIsN at e
  split at e
  · cases e
    rename_i hn
    rw [← r2.isN] at hn
    refine ⟨of_decide_eq_true hn, ?_⟩
    rw [r1.isN]
    have := q (.bl x.isN) fun F => by cases x.isN <;> exact .bl _
    exact this
  · cases e) ha (vb_of ve_non) (nomark _)
theorem vc_notN {j : Nat} {p : Pos} (ha : VB W X E a fa) : VC W X E .IsNot a (.Constant .none j p) (e2 (gIsN true) fa (eC .non)) := vcmp op_notN (fun B H w u x y v Q sb r1 r2 e q => by
  unfold gIsN at e
  split at e
  · cases e
    rename_i hn
    rw [← r2.isN] at hn
    refine ⟨of_decide_eq_true hn, ?_⟩
    rw [r1.isN]
    have := q (.bl (!x.isN)) fun F => by cases x.isN <;> exact .bl _
    exact this
  · cases e) ha (vb_of ve_non) (nomark _)

/-! ### 4. tests, and or not, a if t else b -/
theorem vt_of {e : Expr} {f : Ev W} (h : VE W X E e f) (he : ∀ whole, isTrue e X.env whole = (do let v ← whole; standAt e.pos; holding [v] (truthy v)) := by intro _; rfl) : VT W X E e (tst f) :=
  PT.imp (pt_val h he) fun σ H Q hq => tst_val hq
def tAndS (t u : Sm W Bool) : Sm W Bool := fun ρ s => (t ρ s).bind fun c s1 => if c = true then u ρ s1 else .ok false s1
def tOrS (t u : Sm W Bool) : Sm W Bool := fun ρ s => (t ρ s).bind fun c s1 => if c = true then .ok true s1 else u ρ s1
def tNotS (t : Sm W Bool) : Sm W Bool := fun ρ s => (t ρ s).bind fun c s1 => .ok (!c) s1
variable {rest : List Expr} {t u : Sm W Bool}
theorem vw_and1 (h : VT W X E a t) : VW W X E (.BoolOp .And [a] pos) t := pw_and1 h
theorem vw_or1 (h : VT W X E a t) : VW W X E (.BoolOp .Or [a] pos) t := pw_or1 h
theorem vw_and (h : VT W X E a t) (h2 : VW W X E (.BoolOp .And (b :: rest) pos) u) : VW W X E (.BoolOp .And (a :: b :: rest) pos) (tAndS t u) := PW.imp (pw_and h h2) fun σ H Q hq => by
  have h' := seq1 (P := pT) (P' := pT) (f := t) (g := fun c ρ s1 => if c = true then u ρ s1 else .ok false s1) pT.back hq
  refine h'.mono ?_
  rintro w H1 ⟨G, ρ, s, v, r, p, h'⟩
  obtain rfl : w = v := p
  cases w with
  | true => exact ⟨G, ρ, s, r, h'⟩
  | false => exact h'.done r rfl
theorem vw_or (h : VT W X E a t) (h2 : VW W X E (.BoolOp .Or (b :: rest) pos) u) : VW W X E (.BoolOp .Or (a :: b :: rest) pos) (tOrS t u) := PW.imp (pw_or h h2) fun σ H Q hq => by
  have h' := seq1 (P := pT) (P' := pT) (f := t) (g := fun c ρ s1 => if c = true then .ok true s1 else u ρ s1) pT.back hq
  refine h'.mono ?_
  rintro w H1 ⟨G, ρ, s, v, r, p, h'⟩
  obtain rfl : w = v := p
  cases w with
  | false => exact ⟨G, ρ, s, r, h'⟩
  | true => exact h'.done r rfl
theorem vt_w {e : Expr} (h : VW W X E e t) : VT W X E e t := PW.pt h
theorem vt_not (h : VT W X E a t) : VT W X E (.UnaryOp .Not a pos) (tNotS t) := PT.imp (pt_not h) fun σ H Q hq => by
  have h' := seq1 (P := pT) (P' := pT) (f := t) (g := fun c _ s1 => .ok (!c) s1) pT.back hq
  refine h'.mono ?_
  rintro w H1 ⟨G, ρ, s, v, r, p, h'⟩
  obtain rfl : w = v := p
  exact h'.done r rfl
/-- .. as values, all but the last one bools -/
def eAndV (f g : Ev W) : Ev W := fun ρ s => (tst f ρ s).bind fun c s1 => if c = true then g ρ s1 else .ok (.bl false) s1
def eOrV (f g : Ev W) : Ev W := fun ρ s => (tst f ρ s).bind fun c s1 => if c = true then .ok (.bl true) s1 else g ρ s1
def eNotV (f : Ev W) : Ev W := fun ρ s => (tst f ρ s).bind fun c s1 => .ok (.bl (!c)) s1
theorem ve_one {op : PySem.BoolOp} (h : VE W X E a fa) : VE W X E (.BoolOp op [a] pos) fa := pe_one h
/-- the value of a bool, by its reading -/
theorem tst_run {f : Ev W} {g : Bool → Sm W Val} {σ : L2.St} {H : Hp} {Q : VK} (h : tG W X.K E (pV X.K) (fun ρ s => (tst f ρ s).bind fun c s1 => g c ρ s1) σ H Q) :
    tG W X.K E (pV X.K) f σ H fun w H1 => ∃ c, w = .bl c ∧ ∃ G ρ s, Rel W X.K G ρ s σ H1 ∧ Pst W X.K E (pV X.K H1) G ρ σ H1 (g c ρ s) Q := by
  have e : (fun ρ s => (tst f ρ s).bind fun c s1 => g c ρ s1) = fun ρ s => (f ρ s).bind fun v s1 => (match v with | .bl b => R.ok b s1 | _ => .bad : R W.S Bool).bind fun c s2 => g c ρ s2 := by
    funext ρ s
    unfold tst
    cases f ρ s with
    | ok v s1 => cases v <;> rfl
    | exc c n s1 => rfl
    | bad => rfl
  rw [e] at h
  have h' := seq1 (P := pV X.K) (P' := pV X.K) (f := f) (g := fun v ρ s1 => (match v with | .bl b => R.ok b s1 | _ => .bad : R W.S Bool).bind fun c s2 => g c ρ s2) pV.back h
  refine h'.mono ?_
  rintro w H1 ⟨G, ρ, s, v, r, p, h'⟩
  cases v with
  | bl b =>
    cases Rep.bl_inv p
    exact ⟨b, rfl, G, ρ, s, r, h'⟩
  | _ => exact h'.elim
theorem ve_and (h : VE W X E a fa) (h2 : VE W X E (.BoolOp .And (b :: rest) pos) fb) : VE W X E (.BoolOp .And (a :: b :: rest) pos) (eAndV fa fb) := PE.imp (pe_and h h2) fun σ H Q hq => by
  refine (tst_run (g := fun c ρ s1 => if c = true then fb ρ s1 else .ok (.bl false) s1) hq).mono ?_
  rintro w H1 ⟨c, rfl, G, ρ, s, r, h'⟩
  refine ⟨c, rfl, ?_⟩
  cases c with
  | true => rw [if_pos rfl]; exact ⟨G, ρ, s, r, h'⟩
  | false => rw [if_neg Bool.false_ne_true]; exact h'.done r (.bl _)
theorem ve_or (h : VE W X E a fa) (h2 : VE W X E (.BoolOp .Or (b :: rest) pos) fb) : VE W X E (.BoolOp .Or (a :: b :: rest) pos) (eOrV fa fb) := PE.imp (pe_or h h2) fun σ H Q hq => by
  refine (tst_run (g := fun c ρ s1 => if c = true then .ok (.bl true) s1 else fb ρ s1) hq).mono ?_
  rintro w H1 ⟨c, rfl, G, ρ, s, r, h'⟩
  refine ⟨c, rfl, ?_⟩
  cases c with
  | false => rw [if_neg Bool.false_ne_true]; exact ⟨G, ρ, s, r, h'⟩
  | true => rw [if_pos rfl]; exact h'.done r (.bl _)
theorem ve_not (h : VE W X E a fa) : VE W X E (.UnaryOp .Not a pos) (eNotV fa) := PE.imp (pe_not h) fun σ H Q hq => by
  refine (tst_run (g := fun c _ s1 => .ok (.bl (!c)) s1) hq).mono ?_
  rintro w H1 ⟨c, rfl, G, ρ, s, r, h'⟩
  exact ⟨c, rfl, h'.done r (.bl _)⟩
def eIf {α : Type} (t : Sm W Bool) (f g : Sm W α) : Sm W α := fun ρ s => (t ρ s).bind fun c s1 => if c = true then f ρ s1 else g ρ s1
theorem ve_if {c : Expr} (hc : VT W X E c t) (ha : VE W X E a fa) (hb : VE W X E b fb) : VE W X E (.IfExp c a b pos) (eIf t fa fb) := PE.imp (pe_ifExp hc ha hb) fun σ H Q hq => by
  have h' := seq1 (P := pT) (P' := pV X.K) (f := t) (g := fun c ρ s1 => if c = true then fa ρ s1 else fb ρ s1) pV.back hq
  refine h'.mono ?_
  rintro w H1 ⟨G, ρ, s, v, r, p, h'⟩
  obtain rfl : w = v := p
  cases w with
  | true => exact ⟨G, ρ, s, r, h'⟩
  | false => exact ⟨G, ρ, s, r, h'⟩

/-! ### 5. arguments, displays -/
def eNil : Sm W (List Val) := fun _ s => .ok [] s
def eCons (f : Ev W) (r : Sm W (List Val)) : Sm W (List Val) := fun ρ s => (f ρ s).bind fun v s1 => (r ρ s1).bind fun vs s2 => .ok (v :: vs) s2
variable {e : Expr} {es : List Expr} {f : Ev W} {fs : Sm W (List Val)}
theorem va_nil : VA W X E [] eNil := PA.imp pa_nil fun σ H Q ⟨G, ρ, s, r, h⟩ => Pst.done r h .nil
theorem va_cons (h : VE W X E e f) (hr : VA W X E es fs) (hs : starEach (e :: es) X.env = (false, eval e X.env) :: starEach es X.env := by rfl) : VA W X E (e :: es) (eCons f fs) := PA.imp (pa_cons h hr hs) fun σ H Q hq => by
  have h' := seq2 (P := pV X.K) (P' := pVs X.K) (P2 := pVs X.K) (f := f) (f2 := fs) (g := fun v vs _ s2 => .ok (v :: vs) s2) pVs.back pV.keeps hq
  refine h'.mono fun w H1 h' => h'.mono ?_
  rintro u H2 ⟨G, ρ, s, x, y, rl, p1, p2, h'⟩
  exact h'.done rl (.cons p1 p2)
end
end VL

/-! VL3: tables by keys, new lists and dicts, what is made one's own and what is shared. -/
namespace VL
open PySem PySem.Spec PyProof.Rows L2

/-! ### 1. tables by keys -/
def kOf : Val → Option Key
  | .int i => some (.inl i)
  | .str x => some (.inr x)
  | _ => none
def ksOf : List Val → Option (List Key)
  | [] => some []
  | v :: r => match kOf v, ksOf r with
    | some k, some ks => some (k :: ks)
    | _, _ => none
/-- what a value is as a key; the Bool: a tuple -/
def dkey : Val → Option (Key ⊕ List Key)
  | .int i => some (.inl (.inl i))
  | .str x => some (.inl (.inr x))
  | .tup xs => (ksOf xs).map .inr
  | _ => none
theorem kOf_kVal : ∀ k, kOf (kVal k) = some k
  | .inl _ => rfl
  | .inr _ => rfl
theorem ksOf_kVal : ∀ ks : List Key, ksOf (ks.map kVal) = some ks
  | [] => rfl
  | k :: r => by
    show (match kOf (kVal k), ksOf (r.map kVal) with | some k, some ks => some (k :: ks) | _, _ => none) = _
    rw [kOf_kVal, ksOf_kVal r]
theorem dkey_k (k : Key) : dkey (kVal k) = some (.inl k) := by cases k <;> rfl
theorem dkey_t (ks : List Key) : dkey (.tup (ks.map kVal)) = some (.inr ks) := by
  show (ksOf (ks.map kVal)).map Sum.inr = _
  rw [ksOf_kVal]; rfl
abbrev DK := Key ⊕ List Key
def vget (kvs : List (Val × Val)) (d : DK) : Option Val := (kvs.find? fun p => decide (dkey p.1 = some d)).map (·.2)
def vput (kvs : List (Val × Val)) (k : Val) (d : DK) (v : Val) : List (Val × Val) :=
  if (kvs.any fun p => decide (dkey p.1 = some d)) = true then kvs.map (fun p => if dkey p.1 = some d then (p.1, v) else p) else kvs ++ [(k, v)]
def vdrop (kvs : List (Val × Val)) (d : DK) : List (Val × Val) := kvs.filter fun p => decide (dkey p.1 ≠ some d)
section
variable {K : PySem.W.Frag} {F : Hp} {κ : Type} [DecidableEq κ] {e : κ → Val} {c : κ → DK}
theorem dk_iff (hc : ∀ k, dkey (e k) = some (c k)) (hi : ∀ a b, c a = c b → a = b) (a b : κ) : (dkey (e a) = some (c b)) ↔ a = b := by
  rw [hc]
  refine ⟨fun h => hi _ _ (Option.some.inj h), fun h => by rw [h]⟩
theorem RepP.get (hc : ∀ k, dkey (e k) = some (c k)) (hi : ∀ a b, c a = c b → a = b) (k : κ) : ∀ {l : List (κ × V)} {kvs : List (Val × Val)}, RepP K F (l.map fun p => (e p.1, p.2)) kvs →
    (valV l k = none ∧ vget kvs (c k) = none) ∨ ∃ w v, valV l k = some w ∧ vget kvs (c k) = some v ∧ Rep K F w v
  | [], kvs, h => by cases h; exact .inl ⟨rfl, rfl⟩
  | p :: l, kvs, h => by
    cases h with
    | cons r t =>
      rename_i v kvs
      have ih := RepP.get hc hi k t
      by_cases q : p.1 = k
      · refine .inr ⟨p.2, v, valV_pos q, ?_, r⟩
        unfold vget
        rw [List.find?_cons]
        have : dkey (e p.1) = some (c k) := (dk_iff hc hi _ _).mpr q
        simp only [this, decide_true]
        rfl
      · have : ¬ dkey (e p.1) = some (c k) := fun z => q ((dk_iff hc hi _ _).mp z)
        have e1 : vget ((e p.1, v) :: kvs) (c k) = vget kvs (c k) := by
          unfold vget
          rw [List.find?_cons]
          simp only [this, decide_false]
        rw [valV_neg q, e1]
        exact ih
theorem RepP.any (hc : ∀ k, dkey (e k) = some (c k)) (hi : ∀ a b, c a = c b → a = b) (k : κ) : ∀ {l : List (κ × V)} {kvs : List (Val × Val)}, RepP K F (l.map fun p => (e p.1, p.2)) kvs →
    (kvs.any fun p => decide (dkey p.1 = some (c k))) = l.any fun p => decide (p.1 = k)
  | [], kvs, h => by cases h; rfl
  | p :: l, kvs, h => by
    cases h with
    | cons r t =>
      rename_i v kvs
      rw [List.any_cons, List.any_cons, RepP.any hc hi k t]
      congr 1
      exact decide_eq_decide.mpr (dk_iff hc hi _ _)
theorem RepP.mapput (hc : ∀ k, dkey (e k) = some (c k)) (hi : ∀ a b, c a = c b → a = b) (k : κ) {w : V} {v : Val} (rw' : Rep K F w v) : ∀ {l : List (κ × V)} {kvs : List (Val × Val)}, RepP K F (l.map fun p => (e p.1, p.2)) kvs →
    RepP K F ((l.map fun kv => if kv.1 = k then (kv.1, w) else kv).map fun p => (e p.1, p.2)) (kvs.map fun p => if dkey p.1 = some (c k) then (p.1, v) else p)
  | [], kvs, h => by cases h; exact .nil
  | p :: l, kvs, h => by
    cases h with
    | cons r t =>
      rename_i v' kvs
      have ih := RepP.mapput hc hi k rw' t
      rw [List.map_cons, List.map_cons, List.map_cons]
      by_cases q : p.1 = k
      · rw [if_pos q, if_pos ((dk_iff hc hi _ _).mpr q)]
        exact .cons rw' ih
      · rw [if_neg q, if_neg fun z => q ((dk_iff hc hi _ _).mp z)]
        exact .cons r ih
theorem RepP.append : ∀ {l l' : List (Val × V)} {kvs kvs' : List (Val × Val)}, RepP K F l kvs → RepP K F l' kvs' → RepP K F (l ++ l') (kvs ++ kvs')
  | _, _, _, _, .nil, h => h
  | _, _, _, _, .cons r t, h => .cons r (RepP.append t h)
theorem RepP.put (hc : ∀ k, dkey (e k) = some (c k)) (hi : ∀ a b, c a = c b → a = b) (k : κ) {w : V} {v : Val} (rw' : Rep K F w v) {l : List (κ × V)} {kvs : List (Val × Val)} (h : RepP K F (l.map fun p => (e p.1, p.2)) kvs) :
    RepP K F ((putK l k w).map fun p => (e p.1, p.2)) (vput kvs (e k) (c k) v) := by
  unfold putK vput
  rw [RepP.any hc hi k h]
  split
  · exact RepP.mapput hc hi k rw' h
  · rw [List.map_append]
    exact RepP.append h (.cons rw' .nil)
theorem RepP.drop (hc : ∀ k, dkey (e k) = some (c k)) (hi : ∀ a b, c a = c b → a = b) (k : κ) : ∀ {l : List (κ × V)} {kvs : List (Val × Val)}, RepP K F (l.map fun p => (e p.1, p.2)) kvs →
    RepP K F ((dropK l k).map fun p => (e p.1, p.2)) (vdrop kvs (c k))
  | [], kvs, h => by cases h; exact .nil
  | p :: l, kvs, h => by
    cases h with
    | cons r t =>
      rename_i v' kvs
      have ih := RepP.drop hc hi k t
      unfold dropK vdrop at *
      rw [List.filter_cons, List.filter_cons]
      by_cases q : p.1 = k
      · have : dkey (e p.1) = some (c k) := (dk_iff hc hi _ _).mpr q
        simp only [q, this, ne_eq, not_true, decide_false, Bool.false_eq_true, if_false]
        have h2 : dkey (e k) = some (c k) := hc k
        simp only [h2, not_true, decide_false, Bool.false_eq_true, if_false]
        exact ih
      · have : ¬ dkey (e p.1) = some (c k) := fun z => q ((dk_iff hc hi _ _).mp z)
        simp only [q, this, ne_eq, not_false_eq_true, decide_true, if_true]
        exact .cons r ih
end
theorem inl_inj (a b : Key) (h : (Sum.inl a : DK) = Sum.inl b) : a = b := Sum.inl.inj h
theorem inr_inj (a b : List Key) (h : (Sum.inr a : DK) = Sum.inr b) : a = b := Sum.inr.inj h
def DK.isT : DK → Bool
  | .inl _ => false
  | .inr _ => true
/-- a value that is a key, in the heap -/
theorem keys_V {K : PySem.W.Frag} {B : Hp} : ∀ {xs : List Val} {ws : List V} {ks : List Key}, Reps K B ws xs → ksOf xs = some ks → ws = ks.map kV ∧ xs = ks.map kVal
  | [], _, ks, .nil, e => by cases e; exact ⟨rfl, rfl⟩
  | x :: xs, _, ks, .cons r t, e => by
    unfold ksOf at e
    cases q : kOf x with
    | none => rw [q] at e; cases e
    | some k =>
      cases q2 : ksOf xs with
      | none => rw [q, q2] at e; cases e
      | some ks' =>
        rw [q, q2] at e
        cases e
        obtain ⟨h1, h2⟩ := keys_V t q2
        cases x with
        | int i => cases q; cases r; exact ⟨by rw [h1]; rfl, by rw [h2]; rfl⟩
        | str z => cases q; cases r; exact ⟨by rw [h1]; rfl, by rw [h2]; rfl⟩
        | _ => cases q
theorem Rep.key {K : PySem.W.Frag} {B : Hp} {w : V} {x : Val} {d : DK} (r : Rep K B w x) (e : dkey x = some d) :
    (∃ k, d = .inl k ∧ w = kV k ∧ x = kVal k) ∨ ∃ ks b, d = .inr ks ∧ w = .ref b ∧ B b = some (.tup (ks.map kV)) ∧ x = .tup (ks.map kVal) := by
  cases x with
  | int i => cases e; cases r; exact .inl ⟨_, rfl, rfl, rfl⟩
  | str z => cases e; cases r; exact .inl ⟨_, rfl, rfl, rfl⟩
  | tup xs =>
    have e : (ksOf xs).map (Sum.inr : List Key → DK) = some d := e
    cases q : ksOf xs with
    | none => rw [q] at e; cases e
    | some ks =>
      rw [q] at e
      cases e
      obtain ⟨b, ws, rfl, hb, rs⟩ := r.seqT
      obtain ⟨h1, h2⟩ := keys_V rs q
      exact .inr ⟨ks, b, rfl, rfl, by rw [hb, h1], by rw [h2]⟩
  | _ => cases e
/-- what is read of a dict at a key -/
def dget (t : Bool) (kvs : List (Val × Val)) (x : Val) : Option (Option Val) := match dkey x with
  | some d => if DK.isT d = t then some (vget kvs d) else none
  | none => none
theorem Rep.dget {K : PySem.W.Frag} {B H : Hp} {w u : V} {t : Bool} {kvs : List (Val × Val)} {x : Val} {o : Option Val} (sb : Sub B H) (r : Rep K B w (.dic t kvs)) (q : Rep K B u x) (e : dget t kvs x = some o) :
    ∃ a y, w = .ref a ∧ DGet H a u y ∧ ((y = none ∧ o = none) ∨ ∃ z v, y = some z ∧ o = some v ∧ Rep K B z v) := by
  unfold VL.dget at e
  cases hd : dkey x with
  | none => rw [hd] at e; cases e
  | some d =>
    rw [hd] at e
    dsimp only at e
    split at e
    · cases e
      rename_i ht
      rcases q.key hd with ⟨k, rfl, rfl, rfl⟩ | ⟨ks, b, rfl, rfl, hb, rfl⟩
      · cases ht
        cases r with
        | dK hr rp =>
          rename_i a l
          refine ⟨a, valV l k, rfl, .inl ⟨l, k, sb.rd hr, rfl, rfl⟩, ?_⟩
          rcases RepP.get (e := kVal) (c := Sum.inl) dkey_k inl_inj k rp with ⟨h1, h2⟩ | ⟨z, v, h1, h2, h3⟩
          · exact .inl ⟨h1, h2⟩
          · exact .inr ⟨z, v, h1, h2, h3⟩
      · cases ht
        cases r with
        | dT hr rp =>
          rename_i a l
          refine ⟨a, valV l ks, rfl, .inr ⟨l, ks, b, sb.rd hr, rfl, sb _ _ hb, rfl⟩, ?_⟩
          rcases RepP.get (e := fun ks => .tup (ks.map kVal)) (c := Sum.inr) dkey_t inr_inj ks rp with ⟨h1, h2⟩ | ⟨z, v, h1, h2, h3⟩
          · exact .inl ⟨h1, h2⟩
          · exact .inr ⟨z, v, h1, h2, h3⟩
    · cases e
/-- .. of a place: what is found there is shared -/
theorem RepO.dget {K : PySem.W.Frag} {F H : Hp} {A : Addr → Prop} {w u : V} {t : Bool} {kvs : List (Val × Val)} {x : Val} {o : Option Val} {p : OT} (sb : Sub F H) (r : RepO K F H A w p) (hp : p = .sh (.dic t kvs) ∨ p = .oD t kvs ∨ p = .oR t kvs)
    (q : Rep K H u x) (e : VL.dget t kvs x = some o) : ∃ a y, w = .ref a ∧ DGet H a u y ∧ ((y = none ∧ o = none) ∨ ∃ z v, y = some z ∧ o = some v ∧ Rep K F z v) := by
  unfold VL.dget at e
  cases hd : dkey x with
  | none => rw [hd] at e; cases e
  | some d =>
    rw [hd] at e
    dsimp only at e
    split at e
    · cases e
      rename_i ht
      rcases q.key hd with ⟨k, rfl, rfl, rfl⟩ | ⟨ks, b, rfl, rfl, hb, rfl⟩
      · cases ht
        obtain ⟨a, l, rfl, hr, rp⟩ : ∃ a l, w = .ref a ∧ Rd H a (.dK l) ∧ RepP K F (l.map kK) kvs := by
          rcases hp with rfl | rfl | rfl
          · cases r with | sh r => cases r with | dK h rp => exact ⟨_, _, rfl, sb.rd h, rp⟩
          · cases r with | oK h _ rp => exact ⟨_, _, rfl, .inl h, rp⟩
          · cases r with | oRK h _ rp => exact ⟨_, _, rfl, .inr ⟨_, h⟩, rp⟩
        refine ⟨a, valV l k, rfl, .inl ⟨l, k, hr, rfl, rfl⟩, ?_⟩
        rcases RepP.get (e := kVal) (c := Sum.inl) dkey_k inl_inj k rp with ⟨h1, h2⟩ | ⟨z, v, h1, h2, h3⟩
        · exact .inl ⟨h1, h2⟩
        · exact .inr ⟨z, v, h1, h2, h3⟩
      · cases ht
        obtain ⟨a, l, rfl, hr, rp⟩ : ∃ a l, w = .ref a ∧ Rd H a (.dT l) ∧ RepP K F (l.map kT) kvs := by
          rcases hp with rfl | rfl | rfl
          · cases r with | sh r => cases r with | dT h rp => exact ⟨_, _, rfl, sb.rd h, rp⟩
          · cases r with | oDT h _ rp => exact ⟨_, _, rfl, .inl h, rp⟩
          · cases r with | oRT h _ rp => exact ⟨_, _, rfl, .inr ⟨_, h⟩, rp⟩
        refine ⟨a, valV l ks, rfl, .inr ⟨l, ks, b, hr, rfl, hb, rfl⟩, ?_⟩
        rcases RepP.get (e := fun ks => .tup (ks.map kVal)) (c := Sum.inr) dkey_t inr_inj ks rp with ⟨h1, h2⟩ | ⟨z, v, h1, h2, h3⟩
        · exact .inl ⟨h1, h2⟩
        · exact .inr ⟨z, v, h1, h2, h3⟩
    · cases e
/-! ### 2. an own thing becomes shared -/
/-- by locking some things one reaches P -/
inductive Lk (P : Hp → Prop) : Hp → Prop
  | here {H : Hp} : P H → Lk P H
  | lock {H : Hp} {d : Addr} {u : HO} : H d = some u → Mut (some u) → (∀ od, Lk P (upd H d (.frz od u))) → Lk P H
theorem Lk.bind {P P' : Hp → Prop} {H : Hp} (h : Lk P H) (k : ∀ H, P H → Lk P' H) : Lk P' H := by
  induction h with
  | here p => exact k _ p
  | lock e m _ ih => exact .lock e m ih
theorem Lk.inv {X : Cx} {pins : List (Addr × Obj)} {σ : L2.St} {P : Hp → Prop} {H : Hp} (h : Lk P H) : ∀ {s : Shared}, Inv X pins σ H s → ∃ H', Inv X pins σ H' s ∧ P H' := by
  induction h with
  | here p => exact fun I => ⟨_, I, p⟩
  | lock e m _ ih =>
    intro s I
    obtain ⟨od, I1⟩ := I.lock e m
    exact ih od I1
theorem pe_lk {X : Cx} {e : Expr} {t : TE} (h : PE X e t) : PE X e fun σ H Q => t σ H fun w H1 => Lk (Q w) H1 := ⟨fun pins s σ H Q I hw =>
  thn (h.run pins s σ H _ I hw) fun u s1 ⟨w, H1, I1, r, q⟩ => by
    obtain ⟨H2, I2, q2⟩ := q.inv I1
    exact ⟨w, H2, I2, r, q2⟩⟩
theorem ps_lk {X : Cx} {st : Stmt} {t : TS} (h : PS X st t) : PS X st fun D σ H => Lk (fun H' => t D σ H') H := ⟨fun pins s σ H D I hw => by
  obtain ⟨H2, I2, q2⟩ := hw.inv I
  exact h.run pins s σ H2 D I2 q2⟩

mutual
/-- nothing of it is walked just now -/
def OT.free : OT → Bool
  | .oR _ _ => false
  | .oT xs => OT.frees xs
  | _ => true
def OT.frees : List OT → Bool
  | [] => true
  | t :: r => t.free && OT.frees r
end
theorem nd_lst (ws : List V) : ((∀ l, HO.lst ws ≠ .dK l) ∧ ∀ l, HO.lst ws ≠ .dT l) ∧ ∀ us, HO.lst ws ≠ .tup us := ⟨⟨fun _ q => (by cases q), fun _ q => (by cases q)⟩, fun _ q => (by cases q)⟩
theorem nd_frz (od : Obj) (u : HO) : ((∀ l, HO.frz od u ≠ .dK l) ∧ ∀ l, HO.frz od u ≠ .dT l) ∧ ∀ us, HO.frz od u ≠ .tup us := ⟨⟨fun _ q => (by cases q), fun _ q => (by cases q)⟩, fun _ q => (by cases q)⟩
theorem upd_eq {H : Hp} {a : Addr} {o : HO} (h : H a = some o) : upd H a o = H := by
  funext b
  by_cases e : b = a
  · rw [e, upd_same, h]
  · rw [upd_ne e]
/-- behind a freezing: A's things are in the part that never changes, all else is as it was -/
structure Frz (W : Wo) (A : Addr → Prop) (G G' : Gh) (s : W.S) (H H' : Hp) : Prop where
  rw' : RelW W G' s H'
  sub : Sub G.F G'.F
  fp : G'.fp = G.fp
  ad : G'.ad = G.ad
  off : ∀ a, ¬ A a → H' a = H a ∧ G'.F a = G.F a
  on : ∀ a o, H a = some o → ∃ o', H' a = some o'
section
variable {W : Wo} {K : PySem.W.Frag} {s : W.S}
theorem Frz.refl {A : Addr → Prop} {G : Gh} {H : Hp} (r : RelW W G s H) : Frz W A G G s H H := ⟨r, Sub.refl _, rfl, rfl, fun _ _ => ⟨rfl, rfl⟩, fun _ o h => ⟨o, h⟩⟩
theorem Frz.trans {A A1 A2 : Addr → Prop} {G G1 G2 : Gh} {H H1 H2 : Hp} (x : Frz W A1 G G1 s H H1) (y : Frz W A2 G1 G2 s H1 H2) (h1 : ∀ a, A1 a → A a) (h2 : ∀ a, A2 a → A a) : Frz W A G G2 s H H2 where
  rw' := y.rw'
  sub := x.sub.trans y.sub
  fp := y.fp.trans x.fp
  ad := y.ad.trans x.ad
  off := fun a n => ⟨(y.off a fun z => n (h2 a z)).1.trans (x.off a fun z => n (h1 a z)).1, (y.off a fun z => n (h2 a z)).2.trans (x.off a fun z => n (h1 a z)).2⟩
  on := fun a o e => by
    obtain ⟨o1, e1⟩ := x.on a o e
    exact y.on a o1 e1
theorem Frz.one {A : Addr → Prop} {G : Gh} {H : Hp} {p : Addr} {u o : HO} (r : RelW W G s H) (hA : A p) (hp : H p = some u) (hn : G.F p = none) (hf : ¬ G.fp p) (hl : (∀ l, o ≠ .dK l) ∧ ∀ l, o ≠ .dT l) (ht : ∀ ws, o ≠ .tup ws) :
    Frz W A G { G with F := upd G.F p o } s H (upd H p o) where
  rw' := r.freeze hp hn hf hl ht
  sub := Sub.upd hn
  fp := rfl
  ad := rfl
  off := fun a n => by
    have q : a ≠ p := fun z => n (z ▸ hA)
    exact ⟨upd_ne q, by show upd G.F p o a = _; rw [upd_ne q]⟩
  on := fun a o' e => by
    by_cases q : a = p
    · subst q; exact ⟨_, upd_same⟩
    · exact ⟨o', by rw [upd_ne q]; exact e⟩
mutual
theorem RepO.frz {A : Addr → Prop} {w : V} : ∀ {t : OT} {G : Gh} {H : Hp}, RelW W G s H → (∀ a, A a → G.F a = none ∧ ¬ G.fp a) → t.free = true → RepO K G.F H A w t → Lk (fun H' => ∃ G', Frz W A G G' s H H' ∧ Rep K G'.F w t.val) H
  | .sh v, G, H, r, hA, hf, .sh rp => .here ⟨G, Frz.refl r, rp⟩
  | .oL vs, G, H, r, hA, hf, .oL (a := a) (ws := ws) e z rp => by
    have x := Frz.one (A := A) (o := .lst ws) r z e (hA a z).1 (hA a z).2 (nd_lst ws).1 (nd_lst ws).2
    rw [upd_eq e] at x
    exact .here ⟨_, x, .lst (a := a) (ws := ws) upd_same (rp.mono (Sub.upd (hA a z).1))⟩
  | .oD false kvs, G, H, r, hA, hf, .oK (a := a) (l := l) e z rp => by
    refine .lock e True.intro fun od => .here ⟨_, Frz.one (A := A) (o := .frz od (.dK l)) r z e (hA a z).1 (hA a z).2 (nd_frz _ _).1 (nd_frz _ _).2, ?_⟩
    exact .dK (.inr ⟨od, upd_same⟩) (rp.mono (Sub.upd (hA a z).1))
  | .oD true kvs, G, H, r, hA, hf, .oDT (a := a) (l := l) e z rp => by
    refine .lock e True.intro fun od => .here ⟨_, Frz.one (A := A) (o := .frz od (.dT l)) r z e (hA a z).1 (hA a z).2 (nd_frz _ _).1 (nd_frz _ _).2, ?_⟩
    exact .dT (.inr ⟨od, upd_same⟩) (rp.mono (Sub.upd (hA a z).1))
  | .oT xs, G, H, r, hA, hf, .oT (a := a) (ws := ws) e rs => by
    refine (RepOs.frz r hA hf rs).bind fun H' ⟨G', x, rp⟩ => .here ⟨G', x, .tup (x.sub _ _ e) rp⟩
theorem RepOs.frz {A : Addr → Prop} : ∀ {ts : List OT} {ws : List V} {G : Gh} {H : Hp}, RelW W G s H → (∀ a, A a → G.F a = none ∧ ¬ G.fp a) → OT.frees ts = true → RepOs K G.F H A ws ts → Lk (fun H' => ∃ G', Frz W A G G' s H H' ∧ Reps K G'.F ws (OT.vals ts)) H
  | [], _, G, H, r, hA, hf, .nil => .here ⟨G, Frz.refl r, .nil⟩
  | t :: ts, _, G, H, r, hA, hf, .cons (A1 := A1) (A2 := A2) r1 r2 d h1 h2 => by
    have hf' : (t.free && OT.frees ts) = true := hf
    rw [Bool.and_eq_true] at hf'
    refine (RepO.frz r (fun a z => hA a (h1 a z)) hf'.1 r1).bind fun H1 ⟨G1, x1, p1⟩ => ?_
    have k2 : ∀ a, A2 a → ¬ A1 a := fun a z y => d a y z
    have r2' : RepOs K G1.F H1 A2 _ ts := r2.mono x1.sub (fun _ z => z) fun a z => (x1.off a (k2 a z)).1
    refine (RepOs.frz x1.rw' (fun a z => ?_) hf'.2 r2').bind fun H2 ⟨G2, x2, p2⟩ => .here ⟨G2, x1.trans x2 h1 h2, .cons (p1.mono x2.sub) p2⟩
    rw [(x1.off a (k2 a z)).2, x1.fp]
    exact hA a (h2 a z)
end
end
section
variable {W : Wo} {X : Cx} {E : WX}
theorem Nx.frz {A : Addr → Prop} {G0 G1 G2 : Gh} {s : W.S} {H0 H1 H2 : Hp} (x : Nx G0 G1 H0 H1) (f : Frz W A G1 G2 s H1 H2) (hA : ∀ a, A a → H0 a = none) : Nx G0 G2 H0 H2 where
  sub := x.sub.trans f.sub
  keep := fun a o e n => by
    have na : ¬ A a := fun z => by rw [hA a z] at e; cases e
    rw [(f.off a na).1]; exact x.keep a o e n
  there := fun a h => by
    cases q : H1 a with
    | none => exact x.there a q
    | some o => obtain ⟨o', e⟩ := f.on a o q; rw [h] at e; cases e
  ad := f.ad.trans x.ad
  fp := fun a z => by rw [f.fp] at z; exact x.fp a z
  fz := fun a o e => by
    by_cases z : A a
    · exact .inr (.inl (hA a z))
    · rw [(f.off a z).2] at e; exact x.fz a o e
theorem Rel.frz {A : Addr → Prop} {G1 G2 : Gh} {ρ : En} {s : W.S} {σ : L2.St} {H1 H2 : Hp} (r : Rel W X.K G1 ρ s σ H1) (f : Frz W A G1 G2 s H1 H2) (hA : ∀ a, A a → ∀ i, ¬ G1.ad i a) : Rel W X.K G2 ρ s σ H2 where
  toRelW := f.rw'
  len := r.len
  slot := fun i t e => by
    obtain ⟨w, h1, h2⟩ := r.slot i t e
    exact ⟨w, h1, h2.mono f.sub (fun a z => by rw [f.ad]; exact z) fun a z => (f.off a fun y => hA a y i z).1⟩
  own := fun i a z => by
    rw [f.ad] at z
    have na : ¬ A a := fun y => hA a y i z
    rw [(f.off a na).1, (f.off a na).2, f.fp]
    exact r.own i a z
  dis := fun i j a h z => by rw [f.ad] at z ⊢; exact r.dis i j a h z
/-- a new thing, shared at once -/
def eF (f : Sm W OT) : Ev W := fun ρ s => (f ρ s).bind fun t s1 => if t.free = true then .ok t.val s1 else .bad
theorem ve_f {e : Expr} {f : Sm W OT} (h : VF W X E e f) : VE W X E e (eF f) := PE.imp (pe_lk h) fun σ H Q hq => by
  obtain ⟨G, ρ, s, r, hq⟩ := hq
  refine ⟨G, ρ, s, r, ?_⟩
  unfold eF at hq
  cases q : f ρ s with
  | bad => rw [q] at hq; exact hq
  | exc c n s' => rw [q] at hq; exact hq
  | ok t s' =>
    rw [q] at hq
    rintro G1 H1 w x r1 ⟨A, ro, hA⟩
    have hq : Pst W X.K E (pV X.K H) G ρ σ H (if t.free = true then R.ok t.val s' else .bad) Q := hq
    split at hq
    · rename_i hf
      refine (ro.frz r1.toRelW (fun a z => ⟨(hA a z).2.1, (hA a z).2.2.2.1⟩) hf).bind fun H2 ⟨G2, f, rp⟩ => .here ?_
      exact hq G2 H2 w (x.frz f fun a z => (hA a z).1) (r1.frz f fun a z => (hA a z).2.2.2.2) rp
    · exact hq.elim

/-! ### 3. new lists, tuples, dicts -/
variable {es : List Expr} {fs : Sm W (List Val)} {pos : Pos}
def small {α : Type} (n : Nat) (a : α) (s : W.S) : R W.S α := if n ≤ sizeLine then .ok a s else .bad
/-- a new own object -/
theorem pF.new {G : Gh} {ρ : En} {s : W.S} {σ : L2.St} {H : Hp} {p : Addr} {o : HO} {t : OT} (r : Rel W X.K G ρ s σ H) (hp : H p = none) (ht : ∀ ws, o ≠ .tup ws) (ro : RepO X.K G.F (upd H p o) (fun a => a = p) (.ref p) t) :
    Nx G G H (upd H p o) ∧ Rel W X.K G ρ s σ (upd H p o) ∧ pF X.K H G (upd H p o) (.ref p) t := by
  obtain ⟨x, rw'⟩ := r.toRelW.laid hp ht
  refine ⟨x, r.next x rw', _, ro, ?_⟩
  rintro a rfl
  refine ⟨hp, r.toRelW.free hp, ⟨o, upd_same, ht⟩, fun z => ?_, fun i z => ?_⟩
  · obtain ⟨_, ⟨o', e⟩, _⟩ := W.own r.wrl z
    rw [hp] at e; cases e
  · obtain ⟨_, ⟨o', e, _⟩, _⟩ := r.own i a z
    rw [hp] at e; cases e
theorem pV.new {G : Gh} {ρ : En} {s : W.S} {σ : L2.St} {H : Hp} {p : Addr} {o : HO} (r : Rel W X.K G ρ s σ H) (hp : H p = none) (hl : (∀ l, o ≠ .dK l) ∧ ∀ l, o ≠ .dT l) :
    Nx G { G with F := upd G.F p o } H (upd H p o) ∧ Rel W X.K { G with F := upd G.F p o } ρ s σ (upd H p o) := by
  obtain ⟨x, rw'⟩ := r.toRelW.fresh hp hl
  exact ⟨x, r.next x rw'⟩
theorem nd_tup (ws : List V) : (∀ l, HO.tup ws ≠ .dK l) ∧ ∀ l, HO.tup ws ≠ .dT l := ⟨fun _ q => (by cases q), fun _ q => (by cases q)⟩
def fLst (fs : Sm W (List Val)) : Sm W OT := fun ρ s => (fs ρ s).bind fun vs s1 => small vs.length (.oL vs) s1
def eTup (fs : Sm W (List Val)) : Ev W := fun ρ s => (fs ρ s).bind fun vs s1 => small vs.length (.tup vs) s1
theorem Pst.small {α γ : Type} {K : PySem.W.Frag} {P : RP γ α} {G : Gh} {ρ : En} {σ : L2.St} {H : Hp} {s : W.S} {n : Nat} {a : α} {Q : γ → Hp → Prop} (h : Pst W K E P G ρ σ H (small n a s) Q) : n ≤ sizeLine ∧ Pst W K E P G ρ σ H (.ok a s) Q := by
  unfold VL.small at h
  split at h
  · exact ⟨by assumption, h⟩
  · exact h.elim
theorem vf_lst (h : VA W X E es fs) : VF W X E (.List es pos) (fLst fs) := PE.imp (pe_lst h) fun σ H Q hq => by
  have h' := seq1 (P := pVs X.K) (P' := pF X.K) (f := fs) (g := fun vs _ s1 => small vs.length (.oL vs) s1) pF.back hq
  refine h'.mono ?_
  rintro ws H1 ⟨G, ρ, s, vs, r, rp, h'⟩
  obtain ⟨hz, h'⟩ := Pst.small h'
  have rp : Reps X.K G.F ws vs := rp
  refine ⟨by rw [rp.length]; exact hz, fun p hp => ?_⟩
  obtain ⟨x, r2, p2⟩ := pF.new (o := .lst ws) (t := .oL vs) r hp (nd_lst ws).2 (.oL upd_same rfl rp)
  exact h' _ _ _ x r2 p2
theorem ve_tup {k : Nat} (h : VA W X E es fs) : VE W X E (.Tuple es k pos) (eTup fs) := PE.imp (pe_tup h) fun σ H Q hq => by
  have h' := seq1 (P := pVs X.K) (P' := pV X.K) (f := fs) (g := fun vs _ s1 => small vs.length (.tup vs) s1) pV.back hq
  refine h'.mono ?_
  rintro ws H1 ⟨G, ρ, s, vs, r, rp, h'⟩
  obtain ⟨hz, h'⟩ := Pst.small h'
  have rp : Reps X.K G.F ws vs := rp
  refine ⟨by rw [rp.length]; exact hz, fun p hp => ?_⟩
  obtain ⟨x, r2⟩ := pV.new (o := .tup ws) r hp (nd_tup ws)
  exact h' _ _ _ x r2 (.tup upd_same (rp.mono (Sub.upd (r.toRelW.free hp))))
def fD0 (t : Bool) : Sm W OT := fun _ s => .ok (.oD t []) s
theorem vf_dK0 : VF W X E (.Dict [] [] pos) (fD0 false) := PE.imp pe_dnewK fun σ H Q ⟨G, ρ, s, r, hq⟩ => fun p hp => by
  obtain ⟨x, r2, p2⟩ := pF.new (o := .dK []) (t := .oD false []) r hp (fun _ q => (by cases q)) (.oK upd_same rfl .nil)
  exact hq _ _ _ x r2 p2
theorem vf_dT0 : VF W X E (.Dict [] [] pos) (fD0 true) := PE.imp pe_dnewT fun σ H Q ⟨G, ρ, s, r, hq⟩ => fun p hp => by
  obtain ⟨x, r2, p2⟩ := pF.new (o := .dT []) (t := .oD true []) r hp (fun _ q => (by cases q)) (.oDT upd_same rfl .nil)
  exact hq _ _ _ x r2 p2

/-! ### 4. items -/
/-- an item of a place -/
def ixO : OT → Val → Option OT
  | .sh (.lst xs), .int i => (atI xs i).map .sh
  | .sh (.tup xs), .int i => (atI xs i).map .sh
  | .sh (.wtup xs), .int i => (atI xs i).map .sh
  | .sh (.wlst xs), .int i => (atI xs i).map .sh
  | .oL xs, .int i => (atI xs i).map .sh
  | .oT ts, .int i => atI ts i
  | .sh (.str z), .int i => if z.length ≤ sizeLine then (atI z.cps.toList i).map fun c => .sh (.str ⟨#[c]⟩) else none
  | _, _ => none
def pIx (p : Sm W OT) (f : Ev W) : Sm W OT := fun ρ s => (p ρ s).bind fun t s1 => (f ρ s1).bind fun v s2 => R.opt (ixO t v) s2
theorem Reps.atI {K : PySem.W.Frag} {F : Hp} {ws : List V} {vs : List Val} {i : Int} {v : Val} (r : Reps K F ws vs) (e : L2.atI vs i = some v) : ∃ w, L2.atI ws i = some w ∧ Rep K F w v := by
  unfold L2.atI at e ⊢
  rw [r.length]
  cases q : ixN vs.length i with
  | none => rw [q] at e; cases e
  | some j =>
    rw [q] at e
    exact r.at' e
theorem RepOs.length {K : PySem.W.Frag} {F H : Hp} : ∀ {ts : List OT} {A : Addr → Prop} {ws : List V}, RepOs K F H A ws ts → ws.length = ts.length
  | [], _, _, .nil => rfl
  | _ :: _, _, _, .cons _ t _ _ _ => by rw [List.length_cons, List.length_cons, RepOs.length t]
theorem RepOs.at {K : PySem.W.Frag} {F H : Hp} : ∀ {ts : List OT} {A : Addr → Prop} {ws : List V} {j : Nat} {t : OT}, RepOs K F H A ws ts → ts[j]? = some t → ∃ w A', ws[j]? = some w ∧ RepO K F H A' w t ∧ ∀ a, A' a → A a
  | [], _, _, _, _, .nil, e => by simp at e
  | _ :: _, _, _, 0, _, .cons r _ _ h1 _, e => by simp at e; subst e; exact ⟨_, _, rfl, r, h1⟩
  | _ :: _, _, _, j + 1, _, .cons _ t _ _ h2, e => by
    obtain ⟨w, A', e1, r, h⟩ := RepOs.at (j := j) t (by simpa using e)
    exact ⟨w, A', by simpa using e1, r, fun a z => h2 a (h a z)⟩
variable {a b : Expr} {p : Sm W OT} {f : Ev W}
theorem vp_ix (ha : VP W X E a p) (hb : VE W X E b f) (hs : PlainIx b := by exact fun _ _ => rfl) : VP W X E (.Subscript a b pos) (pIx p f) := PE.imp (pe_ix ix_seq ha hb hs) fun σ H Q hq => by
  have h' := seq2 (P := pP X.K) (P' := pV X.K) (P2 := pP X.K) (f := p) (f2 := f) (g := fun t v _ s2 => R.opt (ixO t v) s2) pP.back pP.keeps hq
  refine h'.mono fun w H1 k1 => k1.mono ?_
  clear h' hq
  rintro u H2 ⟨G, ρ, s, t, v, rl, ⟨A, ro, hA⟩, p2, k2⟩
  obtain ⟨t2, e, k3⟩ := Pst.opt k2
  have p2 : Rep X.K G.F u v := p2
  unfold ixO at e
  split at e
  · cases p2.int_inv
    cases q : L2.atI _ _ with
    | none => rw [q] at e; cases e
    | some y =>
      rw [q] at e; cases e
      cases ro with
      | sh r =>
        obtain ⟨a, ws, rfl, ha, rs⟩ := r.seqL
        obtain ⟨z, e1, r1⟩ := rs.atI q
        exact .inl ⟨_, ws, _, z, rfl, rfl, SqL.of (rl.sub _ _ ha), e1, k3.done rl ⟨_, .sh (A := fun _ => False) r1, fun _ z => z.elim⟩⟩
  · cases p2.int_inv
    cases q : L2.atI _ _ with
    | none => rw [q] at e; cases e
    | some y =>
      rw [q] at e; cases e
      cases ro with
      | sh r =>
        obtain ⟨a, ws, rfl, ha, rs⟩ := r.seqT
        obtain ⟨z, e1, r1⟩ := rs.atI q
        exact .inr (.inl ⟨_, ws, _, z, rfl, rfl, SqT.of (rl.sub _ _ ha), e1, k3.done rl ⟨_, .sh (A := fun _ => False) r1, fun _ z => z.elim⟩⟩)
  · cases p2.int_inv
    cases q : L2.atI _ _ with
    | none => rw [q] at e; cases e
    | some y =>
      rw [q] at e; cases e
      cases ro with
      | sh r =>
        obtain ⟨a, ws, rfl, ha, rs⟩ := r.seqW
        obtain ⟨z, e1, r1⟩ := rs.atI q
        exact .inr (.inl ⟨_, ws, _, z, rfl, rfl, rl.sub.seqT ha, e1, k3.done rl ⟨_, .sh (A := fun _ => False) r1, fun _ z => z.elim⟩⟩)
  · cases p2.int_inv
    cases q : L2.atI _ _ with
    | none => rw [q] at e; cases e
    | some y =>
      rw [q] at e; cases e
      cases ro with
      | sh r =>
        obtain ⟨a, ws, rfl, ha, rs⟩ := r.seqV
        obtain ⟨z, e1, r1⟩ := rs.atI q
        exact .inl ⟨_, ws, _, z, rfl, rfl, rl.sub.seqL ha, e1, k3.done rl ⟨_, .sh (A := fun _ => False) r1, fun _ z => z.elim⟩⟩
  · cases p2.int_inv
    cases q : L2.atI _ _ with
    | none => rw [q] at e; cases e
    | some y =>
      rw [q] at e; cases e
      cases ro with
      | oL ha _ rs =>
        obtain ⟨z, e1, r1⟩ := rs.atI q
        exact .inl ⟨_, _, _, z, rfl, rfl, SqL.of ha, e1, k3.done rl ⟨_, .sh (A := fun _ => False) r1, fun _ z => z.elim⟩⟩
  · cases p2.int_inv
    cases ro with
    | oT ha rs =>
      unfold L2.atI at e
      cases q : ixN _ _ with
      | none => rw [q] at e; cases e
      | some j =>
        rw [q] at e
        obtain ⟨z, A', e1, r1, h1⟩ := rs.at e
        refine .inr (.inl ⟨_, _, _, z, rfl, rfl, SqT.of (rl.sub _ _ ha), ?_, k3.done rl ⟨_, r1, fun a y => hA a (h1 a y)⟩⟩)
        unfold L2.atI
        rw [rs.length, q]
        exact e1
  · cases p2.int_inv
    split at e
    · rename_i hz
      cases q : L2.atI _ _ with
      | none => rw [q] at e; cases e
      | some c =>
        rw [q] at e; cases e
        cases ro with
        | sh r =>
          cases r.str_inv
          exact .inr (.inr ⟨_, _, c, rfl, rfl, hz, q, k3.done rl ⟨_, .sh (A := fun _ => False) (.str _), fun _ z => z.elim⟩⟩)
    · cases e
  · cases e
/-- a thing that is a value, as a place -/
def pE (f : Ev W) : Sm W OT := fun ρ s => (f ρ s).bind fun v s1 => .ok (.sh v) s1
theorem vp_of {e : Expr} (h : VE W X E e f) : VP W X E e (pE f) := PE.imp h fun σ H Q hq => by
  have h' := seq1 (P := pV X.K) (P' := pP X.K) (f := f) (g := fun v _ s1 => .ok (.sh v) s1) pP.back hq
  refine h'.mono ?_
  rintro w H1 ⟨G, ρ, s, v, r, rp, h'⟩
  exact h'.done r ⟨_, .sh (A := fun _ => False) rp, fun _ z => z.elim⟩
/-- d[k] of a dict -/
def OT.dict : OT → Option (Bool × List (Val × Val))
  | .sh (.dic t kvs) => some (t, kvs)
  | .oD t kvs => some (t, kvs)
  | .oR t kvs => some (t, kvs)
  | _ => none
theorem OT.dict_of {p : OT} {t : Bool} {kvs : List (Val × Val)} (h : p.dict = some (t, kvs)) : p = .sh (.dic t kvs) ∨ p = .oD t kvs ∨ p = .oR t kvs := by
  unfold OT.dict at h
  split at h
  · cases h; exact .inl rfl
  · cases h; exact .inr (.inl rfl)
  · cases h; exact .inr (.inr rfl)
  · cases h
/-- what a place that is a dict holds at a key -/
def dgO (p : OT) (v : Val) : Option (Option Val) := p.dict.bind fun d => dget d.1 d.2 v
theorem dgO_of {p : OT} {v : Val} {o : Option Val} (h : dgO p v = some o) : ∃ t kvs, p.dict = some (t, kvs) ∧ dget t kvs v = some o := by
  unfold dgO at h
  cases q : p.dict with
  | none => rw [q] at h; cases h
  | some d => rw [q] at h; exact ⟨d.1, d.2, rfl, h⟩
def eDg (p : Sm W OT) (f : Ev W) : Ev W := fun ρ s => (p ρ s).bind fun t s1 => (f ρ s1).bind fun v s2 => R.opt ((dgO t v).bind id) s2
theorem ve_dg (hu : X.A.units + 1 < cLine) (ha : VP W X E a p) (hb : VE W X E b f) (hs : NoSl b := by exact fun _ _ => rfl) : VE W X E (.Subscript a b pos) (eDg p f) := PE.imp (pe_dget hu ha hb hs) fun σ H Q hq => by
  have h' := seq2 (P := pP X.K) (P' := pV X.K) (P2 := pV X.K) (f := p) (f2 := f) (g := fun t v _ s2 => R.opt ((dgO t v).bind id) s2) pV.back pP.keeps hq
  refine h'.mono fun w H1 k1 => k1.mono ?_
  clear h' hq
  rintro u H2 ⟨G, ρ, s, t, v, rl, ⟨A, ro, hA⟩, p2, k2⟩
  obtain ⟨z, e, k3⟩ := Pst.opt k2
  cases q : dgO t v with
  | none => rw [q] at e; cases e
  | some o =>
    rw [q] at e
    have e : o = some z := e
    subst e
    obtain ⟨tt, kvs, e1, e2⟩ := dgO_of q
    obtain ⟨a, y, rfl, dg, h3⟩ := ro.dget rl.sub (OT.dict_of e1) (Rep.mono rl.sub p2) e2
    rcases h3 with ⟨_, h4⟩ | ⟨z2, v2, rfl, h4, r4⟩
    · cases h4
    · cases h4
      exact ⟨a, z2, rfl, dg, k3.done rl r4⟩
end
end VL

/-! VL5: == of values; what a value reads as. -/
namespace VL
open PySem PySem.Spec PyProof.Rows L2 PySem.SeqAt

/-! ### 1. two dicts with keys of one kind, object by object -/
section
variable {prog : Program} {w : World} {A : Around} {E : Value → Shared → Prop} {s : Shared} {K : Type} [DecidableEq K] {knd : HeapKind prog w K}
/-- what the comparison gives: e tells of the values at a key that both have -/
def sameH (ys : List (K × Addr × Value)) (e : K → Bool) (xs : List (K × Addr × Value)) : Bool := xs.all fun x => (atKey ys x.1).isSome && e x.1
theorem atKey_at {ys : List (K × Addr × Value)} (hn : (ys.map (·.1)).Nodup) {j : Nat} {k : K} {p : Addr × Value} (h : ys[j]? = some (k, p)) : atKey ys k = some p := by
  induction ys generalizing j with
  | nil => simp at h
  | cons y r ih =>
    unfold atKey
    rw [List.find?_cons]
    rw [List.map_cons, List.nodup_cons] at hn
    cases j with
    | zero =>
      have e : y = (k, p) := by simpa using h
      subst e
      simp
    | succ j =>
      have h' : r[j]? = some (k, p) := by simpa using h
      have ne : ¬ y.1 = k := fun q => hn.1 (by
        rw [q]
        exact List.mem_map.mpr ⟨(k, p), List.mem_of_getElem? h', rfl⟩)
      simp only [ne, decide_false]
      exact ih hn.2 h'
theorem atKey_none {ys : List (K × Addr × Value)} {k : K} (h : ∀ (j : Nat) (p : Addr × Value), ys[j]? ≠ some (k, p)) : atKey ys k = none := by
  unfold atKey
  rw [Option.map_eq_none_iff, List.find?_eq_none]
  intro y hy q
  obtain ⟨j, hj⟩ := List.getElem?_of_mem hy
  have : y.1 = k := of_decide_eq_true q
  exact h j y.2 (by rw [hj, ← this])
theorem same_pairs {nm : String} {a b : Addr} {xs ys : List (K × Addr × Value)} {e : K → Bool} {Q : Bool → Shared → Prop} (ha : (a == sysModules) = false) (hb : (b == sysModules) = false) (hu : knd.room A)
    (hx : s.heap.DictOfH knd a xs) (hy : s.heap.DictOfH knd b ys) (he : ∀ x ∈ xs, ∀ p, atKey ys x.1 = some p → EqIn prog w A s x.2.2 p.2 (e x.1))
    (h : Q (xs.length == ys.length && sameH ys e xs) s) : wpAny (model prog w) A (Builtin.Dict.samePairs nm a b) Q E s := by
  obtain ⟨oa, ea, epa, ga, _, da, la, isa, _⟩ := hx
  obtain ⟨ob, eb, epb, gb, _, db, lb, isb, nb⟩ := hy
  have sa : ea.size = xs.length := size_of_entries la
  have sb : eb.size = ys.length := size_of_entries lb
  unfold Builtin.Dict.samePairs Builtin.Dict.showsAll
  simp only [ha, hb, Bool.false_eq_true, if_false]
  refine wpAny_bind (wpAny_pure (wpAny_bind (wpAny_pure (wpAny_bind (wpAny_dictEntries ga da ?_)))))
  refine wpAny_bind (wpAny_dictEntries gb db ?_)
  by_cases hz : ea.size = eb.size
  · have hl : (xs.length == ys.length) = true := by rw [beq_iff_eq]; omega
    rw [hl, Bool.true_and] at h
    rw [if_neg (by simp [hz])]
    refine wpAny_bind (wpAny_dictEpoch ga da (wpAny_bind ?_))
    rw [Std.Legacy.Range.forIn_eq_forIn_range']
    simp only [Std.Legacy.Range.size, Nat.sub_zero, Nat.add_sub_cancel, Nat.div_one]
    refine wpAny_forIn_list _ (fun rest q s' => s' = s ∧ q = (none, ()) ∧ ∃ i, rest = List.range' i (ea.size - i) ∧ i ≤ ea.size ∧ sameH ys e xs = sameH ys e (xs.drop i)) _ ?_ ?_ _ _ ⟨rfl, rfl, 0, by simp, Nat.zero_le _, rfl⟩
    · rintro i rest q s' ⟨rfl, rfl, j, hr, hj, hs⟩
      have lt : j < ea.size := by
        rcases Nat.lt_or_ge j ea.size with z | z
        · exact z
        · rw [Nat.sub_eq_zero_of_le z] at hr; cases hr
      have e1 : ea.size - j = (ea.size - (j + 1)) + 1 := by omega
      rw [e1, List.range'_succ] at hr
      injection hr with hr1 hr2
      subst hr1
      have lx : i < xs.length := by omega
      have ex : xs[i]? = some xs[i] := List.getElem?_eq_getElem lx
      have een : ea[i]? = some (entryOfKey knd xs[i]) := by rw [entry_at la, ex]; rfl
      have dr : xs.drop i = xs[i] :: xs.drop (i + 1) := List.drop_eq_getElem_cons lx
      refine wpAny_bind (wpAny_dictEntries ga da ?_)
      rw [een]
      refine wpAny_bind (wpAny_holding (wpAny_bind ?_))
      have hin : xs[i] ∈ xs := List.getElem_mem lx
      refine wpAny_dictFind_heap hu (isa _ hin) gb db lb isb nb (fun hno => ?_) (fun k p hk => ?_)
      · rw [hs, dr] at h
        have z := atKey_none hno
        have fz : sameH ys e (xs[i] :: xs.drop (i + 1)) = false := by
          unfold sameH
          rw [List.all_cons, z]; rfl
        rw [fz] at h
        exact wpAny_pure (wpAny_pure (wpAny_pure h))
      · have z := atKey_at nb hk
        have ebn : eb[k]? = some (entryOfKey knd (xs[i].1, p)) := by rw [entry_at lb, hk]; rfl
        refine wpAny_bind (wpAny_dictEntries gb db ?_)
        rw [ebn]
        have fz : sameH ys e (xs[i] :: xs.drop (i + 1)) = (e xs[i].1 && sameH ys e (xs.drop (i + 1))) := by
          unfold sameH
          rw [List.all_cons, z]; rfl
        refine wpAny_holding (he _ hin p z _ _ ?_)
        cases q : e xs[i].1 with
        | false =>
          rw [hs, dr, fz, q] at h
          exact wpAny_pure (wpAny_pure h)
        | true =>
          refine wpAny_bind (wpAny_dictEpoch ga da ?_)
          rw [if_neg (by simp)]
          refine wpAny_pure ⟨rfl, rfl, i + 1, hr2, lt, ?_⟩
          rw [hs, dr, fz, q, Bool.true_and]
    · rintro q s' ⟨rfl, rfl, j, hr, hj, hs⟩
      have z : j = ea.size := by
        rcases Nat.lt_or_ge j ea.size with z | z
        · have e1 : ea.size - j = (ea.size - (j + 1)) + 1 := by omega
          rw [e1, List.range'_succ] at hr; cases hr
        · omega
      have e2 : xs.drop j = [] := List.drop_eq_nil_of_le (by omega)
      rw [hs, e2] at h
      exact wpAny_pure h
  · have hl : (xs.length == ys.length) = false := by rw [beq_eq_false_iff_ne]; omega
    rw [hl, Bool.false_and] at h
    rw [if_pos (by simpa using hz)]
    exact wpAny_bind (wpAny_rule (wpAny_pure h))
theorem rc_dictsH {a b : Addr} {xs ys : List (K × Addr × Value)} {e : K → Bool} (ha : (a == sysModules) = false) (hb : (b == sysModules) = false) (hu : A.units < cLine) (hr : knd.room A.in1)
    (hx : s.heap.DictOfH knd a xs) (hy : s.heap.DictOfH knd b ys) (he : ∀ x ∈ xs, ∀ p, atKey ys x.1 = some p → EqIn prog w A.in1 s x.2.2 p.2 (e x.1)) (E Q : Value → Shared → Prop)
    (h : Q (.bool (xs.length == ys.length && sameH ys e xs)) s) : wpAny (model prog w) A (richCompare .Eq (.ref a) (.ref b)) Q E s := by
  refine wpAny_richCompare_same_room (op := .Eq) hx.typeIs hy.typeIs PySem.F.slot_dict_eq (wpAny_call_entry PySem.F.slot_dict_eq hx.typeIs PySem.F.entry_dict_eq ?_ (PySem.F.args_dict_eq_2 _ _)) hu
  show wpAny _ _ (Builtin.Dict.dictSlotArgs "__eq__" ⟨[.ref a, .ref b], []⟩ >>= _) _ _ s
  unfold Builtin.Dict.dictSlotArgs
  refine wpAny_bind (wpAny_bind (wpAny_notOrdered_dict hx.typeIs (wpAny_pure ?_)))
  refine wpAny_bind (wpAny_isInstance (T := "dict") hy.typeIs PySem.F.sub_dict_dict ?_)
  simp only [Bool.not_true, Bool.false_eq_true, if_false]
  refine wpAny_bind (wpAny_pure (wpAny_bind (wpAny_pure (wpAny_bind (same_pairs ha hb hr hx hy he ?_)))))
  exact wpAny_pure ⟨_, rfl, (fun x => nomatch x), by simpa using h⟩
/-- != of two tuples, within one model -/
theorem tuple_neIn (l b : Addr) (xs ys : Array Value) (n m : Nat) (dx dy : Option Addr) (sx sy : Array (Option Value)) (e : Nat → Bool) :
    MeetsIn prog w (Builtin.«tuple.__ne__» ⟨[.ref l, .ref b], []⟩) fun A R s =>
      s.heap.get? l = some { cls := .type "tuple", dict := dx, data := .seq xs n, slots := sx } ∧ s.heap.get? b = some { cls := .type "tuple", dict := dy, data := .seq ys m, slots := sy } ∧
        (∀ (j : Nat) (p : j < xs.size) (q : j < ys.size), EqIn prog w A.in1 s xs[j] ys[j] (e j)) ∧ R (.ok (.ret (.bool (!((List.range (min xs.size ys.size)).all e && xs.size == ys.size))))) s :=
  .of_wp fun A R s h => by
    obtain ⟨hp, g, d, tk, os⟩ := s
    obtain ⟨gl, gb, he, hr⟩ := h
    have sub := AutoSeq1.sub_tuple_tuple
    have len : (xs.toList.zip ys.toList).length = min xs.size ys.size := by simp
    wp_walk using wpAny_loadPart' gl, wpAny_loadPart' gb, wpAny_forIn_list _ (fun rest q s' => q.1 = none ∧ s' = ⟨hp, g, d, tk, os⟩ ∧ ∃ i, rest = (xs.toList.zip ys.toList).drop i ∧
        R (.ok (.ret (.bool (!(((List.range (min xs.size ys.size)).drop i).all e && xs.size == ys.size))))) ⟨hp, g, d, tk, os⟩) _
    case turn =>
      rintro ⟨y, x⟩ rest q s' ⟨q1, rfl, i, hz, hR⟩
      have lt : i < (xs.toList.zip ys.toList).length := (Nat.lt_or_ge i _).resolve_right fun z => by
        rw [List.drop_of_length_le z] at hz; cases hz
      have lm : i < min xs.size ys.size := by rw [← len]; exact lt
      have l1 : i < xs.size := by omega
      have l2 : i < ys.size := by omega
      rw [List.drop_eq_getElem_cons lt] at hz
      injection hz with z1 z2
      have y1 : y = xs[i] := by simpa using congrArg Prod.fst z1
      have x1 : x = ys[i] := by simpa using congrArg Prod.snd z1
      subst y1; subst x1
      have dr : (List.range (min xs.size ys.size)).drop i = i :: (List.range (min xs.size ys.size)).drop (i + 1) := by simp [List.drop_eq_getElem_cons, lm]
      rw [dr, List.all_cons] at hR
      refine wpAny_bind (he i l1 l2 _ _ ?_)
      cases t : e i with
      | true => rw [t] at hR; wp_walk; exact ⟨rfl, rfl, i + 1, z2, by simpa using hR⟩
      | false => rw [t] at hR; wp_walk; exact ⟨_, rfl, by simpa using hR⟩
    case fin =>
      rintro ⟨b1, b2⟩ s' ⟨q1, rfl, i, hz, hR⟩
      simp only at q1
      subst q1
      have ge : min xs.size ys.size ≤ i := (Nat.lt_or_ge i (xs.toList.zip ys.toList).length).elim (fun z => by rw [List.drop_eq_getElem_cons z] at hz; cases hz) fun z => by rw [← len]; exact z
      rw [List.drop_of_length_le (by simpa using ge)] at hR
      wp_walk
      exact ⟨_, rfl, by simpa [Builtin.Tuple.tupleCompareSizes, bne] using hR⟩
    case h => exact ⟨rfl, rfl, 0, rfl, by simpa using hr⟩
theorem rcNe_tuples {l b : Addr} {xs ys : Array Value} {e : Nat → Bool} {Q : Value → Shared → Prop} (hl : s.heap.IsTuple l xs) (hb : s.heap.IsTuple b ys) (hu : A.units < cLine)
    (he : ∀ (j : Nat) (p : j < xs.size) (q : j < ys.size), EqIn prog w A.in1 s xs[j] ys[j] (e j)) (h : Q (.bool (!((List.range (min xs.size ys.size)).all e && xs.size == ys.size))) s) :
    wpAny (model prog w) A (richCompare .NotEq (.ref l) (.ref b)) Q E s := by
  obtain ⟨⟨c, d, data, sl⟩, g1, c1, n, d1⟩ := id hl
  obtain ⟨⟨c', d', data', sl'⟩, g2, c2, m, d2⟩ := id hb
  simp only at c1 d1 c2 d2
  subst c1; subst d1; subst c2; subst d2
  refine wpAny_richCompare_same_room (T := "tuple") (op := .NotEq) ⟨_, g1, rfl⟩ ⟨_, g2, rfl⟩ PySem.F.slot_tuple_ne (call_meetsIn PySem.F.slot_tuple_ne ⟨_, g1, rfl⟩ PySem.F.entry_tuple_ne (PySem.F.args_tuple_ne_2 _ _) (tuple_neIn l b xs ys n m d d' sl sl' e) ?_) hu
  exact ⟨g1, g2, he, (fun x => nomatch x), h⟩
end
/-! ### 2. values as data of the language -/
mutual
def Val.toD : Val → PyData
  | .non => .none
  | .bl b => .bool b
  | .int i => .int i
  | .str x => .str x
  | .tup xs => .tuple (Val.toDs xs)
  | .wtup xs => .tuple (Val.toDs xs)
  | .wlst xs => .list (Val.toDs xs)
  | .lst xs => .list (Val.toDs xs)
  | .dic _ kvs => .dict (Val.toDp kvs)
  | .adr _ => .none
def Val.toDs : List Val → List PyData
  | [] => []
  | x :: r => x.toD :: Val.toDs r
def Val.toDp : List (Val × Val) → List (PyData × PyData)
  | [] => []
  | p :: r => Val.toD2 p :: Val.toDp r
def Val.toD2 : Val × Val → PyData × PyData
  | (k, v) => (k.toD, v.toD)
end
mutual
/-- it reads as data -/
def Val.pure : Val → Bool
  | .adr _ => false
  | .wlst _ => false
  | .tup xs => Val.pures xs
  | .wtup xs => Val.pures xs
  | .lst xs => Val.pures xs
  | .dic _ kvs => Val.purep kvs
  | _ => true
def Val.pures : List Val → Bool
  | [] => true
  | x :: r => x.pure && Val.pures r
def Val.purep : List (Val × Val) → Bool
  | [] => true
  | p :: r => Val.pure2 p && Val.purep r
def Val.pure2 : Val × Val → Bool
  | (_, v) => v.pure
end
theorem toD_key (k : Key) : (kVal k).toD = (match k with | .inl i => .int i | .inr x => .str x) := by cases k <;> rfl
section
variable {X : Cx} {pins : List (Addr × Obj)} {σ : L2.St} {H B : Hp} {s : Shared}
theorem reads_key {h : Heap} {k : Key} {u : Value} (r : RelV (kV k) u) : Reads h u (kVal k).toD [] := by
  cases k with
  | inl i => obtain ⟨t, rfl⟩ := r; exact .int i t
  | inr x => obtain ⟨t, rfl⟩ := r; exact .str x t
theorem reads_keys {h : Heap} : ∀ {ks : List Key} {us : List Value}, Vals (ks.map kV) us → ReadsAll h us (Val.toDs (ks.map kVal)) []
  | [], _, .nil => .nil
  | k :: ks, _, .cons r t => .cons (as := []) (bs := []) (reads_key r) (reads_keys t)
theorem dk_vals {l : List (Key × V)} {vs : List (Key × Value)} (kv : KV l vs) : Vals ((l.map kK).map (·.2)) (vs.map (·.2)) := by
  unfold KV at kv
  induction kv with
  | nil => exact .nil
  | cons h _ ih => exact .cons h.2 ih
theorem pairs_vals {P : Program} {w : World} {es : List DictEntry} {vs : List (Key × Value)} (p : Pairs (mixKind P w) es vs) : es.map (·.val) = vs.map (·.2) := by
  induction p with
  | nil => rfl
  | cons _ h _ ih => rw [List.map_cons, List.map_cons, h, ih]
theorem dk_keys {P : Program} {w : World} {h : Heap} {l : List (Key × V)} {vs : List (Key × Value)} (kv : KV l vs) : ∀ {es : List DictEntry} {kvs : List (Val × Val)}, Pairs (mixKind P w) es vs → RepP X.K B (l.map kK) kvs →
    ReadsAll h (es.map (·.key)) ((Val.toDp kvs).map (·.1)) [] := by
  unfold KV at kv
  induction kv with
  | nil => intro es kvs p rp; cases p; cases rp; exact .nil
  | @cons a b la lb q t ih =>
    intro es kvs p rp
    cases p with
    | cons h1 h2 h3 =>
      cases rp with
      | cons r rs =>
        refine .cons (as := []) (bs := []) (reads_key ?_) (ih h3 rs)
        rw [q.1]
        exact relV_key h1
theorem dt_vals {l : List (List Key × V)} {xs : List (List Key × Addr × Value)} (kt : KT H l xs) : Vals ((l.map kT).map (·.2)) (xs.map (·.2.2)) := by
  induction kt with
  | nil => exact .nil
  | cons h _ ih => exact .cons h.2.2 ih
theorem dt_keys (I : Inv X pins σ H s) {l : List (List Key × V)} {xs : List (List Key × Addr × Value)} (kt : KT H l xs) : ∀ {kvs : List (Val × Val)}, RepP X.K B (l.map kT) kvs → ∃ as, ReadsAll s.heap (xs.map fun x => Value.ref x.2.1) ((Val.toDp kvs).map (·.1)) as := by
  induction kt with
  | nil => intro kvs rp; cases rp; exact ⟨_, .nil⟩
  | @cons a b la lb q t ih =>
    intro kvs rp
    cases rp with
    | cons r rs =>
      obtain ⟨as, h⟩ := ih rs
      obtain ⟨its, rv, ⟨o, g, c, n, d⟩, _⟩ := I.tuple (SqT.of q.2.1)
      have h2 : Reads s.heap (.ref b.2.1) (Val.toD (.tup (a.1.map kVal))) [] := .tuple g c d (by simpa using reads_keys rv)
      exact ⟨_, .cons h2 h⟩
mutual
theorem Rep.reads (I : Inv X pins σ H s) (sb : Sub B H) : ∀ {v : Val} {w : V} {u : Value}, Rep X.K B w v → RelV w u → v.pure = true → ∃ as, Reads s.heap u v.toD as
  | .non, _, _, .non, r, _ => by cases r; exact ⟨_, .none⟩
  | .bl b, _, _, .bl _, r, _ => by cases r; exact ⟨_, .bool b⟩
  | .int i, _, _, .int _, r, _ => by obtain ⟨t, rfl⟩ := r; exact ⟨_, .int i t⟩
  | .str x, _, _, .str _, r, _ => by obtain ⟨t, rfl⟩ := r; exact ⟨_, .str x t⟩
  | .tup xs, _, _, .tup e rs, r, hp => by
    cases r
    obtain ⟨its, rv, ⟨o, g, c, n, d⟩, _⟩ := I.tuple (SqT.of (sb _ _ e))
    obtain ⟨as, h⟩ := Reps.reads I sb rs rv hp
    exact ⟨_, .tuple g c d (by simpa using h)⟩
  | .wtup xs, _, _, .tupW (a := a) (ws := ws) e rs, r, hp => by
    cases r
    have e' : SqT X.K H a ws := by
      rcases e with (e | ⟨o, e⟩) | e
      · cases e
      · cases e
      · exact .inr e
    obtain ⟨its, rv, ⟨o, g, c, n, d⟩, _⟩ := I.tuple e'
    obtain ⟨as, h⟩ := Reps.reads I sb rs rv hp
    exact ⟨_, .tuple g c d (by simpa using h)⟩
  | .lst xs, _, _, .lst e rs, r, hp => by
    cases r
    obtain ⟨its, rv, ⟨o, n, g, c, _, d⟩, _⟩ := I.list (SqL.of (sb _ _ e))
    obtain ⟨as, h⟩ := Reps.reads I sb rs rv hp
    exact ⟨_, .list g c d (by simpa using h)⟩
  | .dic false kvs, _, _, .dK (l := l) e rp, r, hp => by
    cases r
    obtain ⟨_, _, vs, kv, o, es, ep, g, c, d, hk, pr, _⟩ := dk_rd I.hok (sb.rd e)
    obtain ⟨bs, h⟩ := RepP.reads I sb rp (dk_vals kv) hp
    rw [← pairs_vals pr] at h
    exact ⟨_, .dict g c.1 d (dk_keys kv pr rp) h⟩
  | .dic true kvs, _, _, .dT (l := l) e rp, r, hp => by
    cases r
    obtain ⟨_, _, xs, kt, o, es, ep, g, c, d, le, _, _⟩ := dt_rd I.hok (sb.rd e)
    obtain ⟨bs, h⟩ := RepP.reads I sb rp (dt_vals kt) hp
    have e1 : es.toList.map (·.val) = xs.map (·.2.2) := by rw [le, List.map_map]; rfl
    have e2 : es.toList.map (·.key) = xs.map fun x => Value.ref x.2.1 := by rw [le, List.map_map]; rfl
    rw [← e1] at h
    obtain ⟨as, h2⟩ := dt_keys I kt rp
    rw [← e2] at h2
    exact ⟨_, .dict g c.1 d h2 h⟩
theorem Reps.reads (I : Inv X pins σ H s) (sb : Sub B H) : ∀ {vs : List Val} {ws : List V} {us : List Value}, Reps X.K B ws vs → Vals ws us → Val.pures vs = true → ∃ as, ReadsAll s.heap us (Val.toDs vs) as
  | [], _, _, .nil, .nil, _ => ⟨_, .nil⟩
  | v :: vs, _, _, .cons r rs, .cons q qs, hp => by
    have hp : (v.pure && Val.pures vs) = true := hp
    rw [Bool.and_eq_true] at hp
    obtain ⟨as, h1⟩ := Rep.reads I sb r q hp.1
    obtain ⟨bs, h2⟩ := Reps.reads I sb rs qs hp.2
    exact ⟨_, .cons h1 h2⟩
theorem RepP.reads (I : Inv X pins σ H s) (sb : Sub B H) : ∀ {kvs : List (Val × Val)} {l : List (Val × V)} {us : List Value}, RepP X.K B l kvs → Vals (l.map (·.2)) us → Val.purep kvs = true → ∃ as, ReadsAll s.heap us ((Val.toDp kvs).map (·.2)) as
  | [], _, _, .nil, .nil, _ => ⟨_, .nil⟩
  | (k, v) :: kvs, _, _, .cons r rs, .cons q qs, hp => by
    have hp : (v.pure && Val.purep kvs) = true := hp
    rw [Bool.and_eq_true] at hp
    obtain ⟨as, h1⟩ := Rep.reads I sb r q hp.1
    obtain ⟨bs, h2⟩ := RepP.reads I sb rs qs hp.2
    exact ⟨_, .cons h1 h2⟩
end
end
end VL

/-! VL6: == and in of values. -/
namespace VL
open PySem PySem.Spec PyProof.Rows L2 PySem.SeqAt

def dfree (x : Val) : Bool := x.pure && (x.toD).plain
mutual
def veq (x y : Val) : Bool := if dfree x && dfree y then PyData.eqv x.toD y.toD else match x, y with
  | .tup xs, .tup ys => (xs.length == ys.length) && veqs xs ys
  | .lst xs, .lst ys => (xs.length == ys.length) && veqs xs ys
  | .dic _ a, .dic _ b => (a.length == b.length) && veqp a b
  | _, _ => false
def veqs : List Val → List Val → Bool
  | x :: xs, y :: ys => veq x y && veqs xs ys
  | _, _ => true
def veqp : List (Val × Val) → List (Val × Val) → Bool
  | p :: r, b => veq2 p b && veqp r b
  | [], _ => true
def veq2 : Val × Val → List (Val × Val) → Bool
  | (k, v), b => match dkey k with
    | some d => match vget b d with
      | some u => veq v u
      | none => false
    | none => false
end
mutual
/-- no object of the written part in it -/
def Val.own : Val → Bool
  | .adr _ => false
  | .wtup _ => false
  | .wlst _ => false
  | .tup xs => Val.owns xs
  | .lst xs => Val.owns xs
  | .dic _ kvs => Val.ownp kvs
  | _ => true
def Val.owns : List Val → Bool
  | [] => true
  | x :: r => x.own && Val.owns r
def Val.ownp : List (Val × Val) → Bool
  | [] => true
  | p :: r => Val.own2 p && Val.ownp r
def Val.own2 : Val × Val → Bool
  | (_, v) => v.own
end
mutual
/-- the comparison is told -/
def vok (x y : Val) : Bool := (dfree x && dfree y) || ((x.own && y.own) && (x.pure && y.pure)) && match x, y with
  | .tup xs, .tup ys => voks xs ys
  | .lst xs, .lst ys => (xs.length == ys.length) && voks xs ys
  | .dic t a, .dic u b => (t == u) && vokp a b
  | _, _ => false
def voks : List Val → List Val → Bool
  | x :: xs, y :: ys => vok x y && voks xs ys
  | _, _ => true
def vokp : List (Val × Val) → List (Val × Val) → Bool
  | p :: r, b => vok2 p b && vokp r b
  | [], _ => true
def vok2 : Val × Val → List (Val × Val) → Bool
  | (k, v), b => match dkey k with
    | some d => match vget b d with
      | some u => vok v u
      | none => true
    | none => false
end
theorem Rd.inj {B : Hp} {a : Addr} {u u' : HO} (h : Rd B a u) (h' : Rd B a u') (n : ∀ o v, u ≠ .frz o v) (n' : ∀ o v, u' ≠ .frz o v) : u = u' := by
  rcases h with h | ⟨o, h⟩
  · rcases h' with h' | ⟨o', h'⟩
    · rw [h] at h'; exact Option.some.inj h'
    · rw [h] at h'; exact absurd (Option.some.inj h') (n _ _)
  · rcases h' with h' | ⟨o', h'⟩
    · rw [h] at h'; exact absurd (Option.some.inj h').symm (n' _ _)
    · rw [h] at h'; cases h'; rfl
section
variable {K : PySem.W.Frag} {B : Hp}
mutual
theorem Rep.inj : ∀ {x y : Val} {w : V}, Rep K B w x → Rep K B w y → x.own = true → y.own = true → x = y
  | .non, _, _, .non, r, _, _ => by cases r; rfl
  | .bl b, _, _, .bl _, r, _, _ => by cases r; rfl
  | .int i, _, _, .int _, r, _, _ => by cases r; rfl
  | .str i, _, _, .str _, r, _, _ => by cases r; rfl
  | .tup xs, y, _, .tup e rs, r, h, h' => by
    cases r with
    | adr => cases h'
    | tup e' rs' => rw [e] at e'; cases e'; rw [Reps.inj rs rs' h h']
    | tupW => cases h'
    | lstW => cases h'
    | lst e' _ => rw [e] at e'; cases e'
    | dK e' _ => rcases e' with e' | ⟨o, e'⟩ <;> (rw [e] at e'; cases e')
    | dT e' _ => rcases e' with e' | ⟨o, e'⟩ <;> (rw [e] at e'; cases e')
  | .lst xs, y, _, .lst e rs, r, h, h' => by
    cases r with
    | adr => cases h'
    | tup e' _ => rw [e] at e'; cases e'
    | tupW => cases h'
    | lstW => cases h'
    | lst e' rs' => rw [e] at e'; cases e'; rw [Reps.inj rs rs' h h']
    | dK e' _ => rcases e' with e' | ⟨o, e'⟩ <;> (rw [e] at e'; cases e')
    | dT e' _ => rcases e' with e' | ⟨o, e'⟩ <;> (rw [e] at e'; cases e')
  | .dic false kvs, y, _, .dK e rs, r, h, h' => by
    cases r with
    | adr => cases h'
    | tup e' _ => rcases e with e | ⟨o, e⟩ <;> (rw [e] at e'; cases e')
    | tupW => cases h'
    | lstW => cases h'
    | lst e' rs' => rcases e with e | ⟨o, e⟩ <;> (rw [e] at e'; cases e')
    | dK e' rs' =>
      have q := Rd.inj e e' (fun _ _ z => by cases z) (fun _ _ z => by cases z)
      cases q
      rw [RepP.inj rs rs' h h']
    | dT e' _ =>
      have q := Rd.inj e e' (fun _ _ z => by cases z) (fun _ _ z => by cases z)
      cases q
  | .dic true kvs, y, _, .dT e rs, r, h, h' => by
    cases r with
    | adr => cases h'
    | tup e' _ => rcases e with e | ⟨o, e⟩ <;> (rw [e] at e'; cases e')
    | tupW => cases h'
    | lstW => cases h'
    | lst e' rs' => rcases e with e | ⟨o, e⟩ <;> (rw [e] at e'; cases e')
    | dT e' rs' =>
      have q := Rd.inj e e' (fun _ _ z => by cases z) (fun _ _ z => by cases z)
      cases q
      rw [RepP.inj rs rs' h h']
    | dK e' _ =>
      have q := Rd.inj e e' (fun _ _ z => by cases z) (fun _ _ z => by cases z)
      cases q
theorem Reps.inj : ∀ {xs ys : List Val} {ws : List V}, Reps K B ws xs → Reps K B ws ys → Val.owns xs = true → Val.owns ys = true → xs = ys
  | [], _, _, .nil, r, _, _ => by cases r; rfl
  | x :: xs, _, _, .cons r rs, q, h, h' => by
    cases q with
    | cons r' rs' =>
      have h : (x.own && Val.owns xs) = true := h
      rw [Bool.and_eq_true] at h
      rename_i y ys
      have h' : (y.own && Val.owns ys) = true := h'
      rw [Bool.and_eq_true] at h'
      rw [Rep.inj r r' h.1 h'.1, Reps.inj rs rs' h.2 h'.2]
theorem RepP.inj : ∀ {xs ys : List (Val × Val)} {l : List (Val × V)}, RepP K B l xs → RepP K B l ys → Val.ownp xs = true → Val.ownp ys = true → xs = ys
  | [], _, _, .nil, r, _, _ => by cases r; rfl
  | (k, x) :: xs, _, _, .cons r rs, q, h, h' => by
    cases q with
    | cons r' rs' =>
      have h : (x.own && Val.ownp xs) = true := h
      rw [Bool.and_eq_true] at h
      rename_i y ys
      have h' : (y.own && Val.ownp ys) = true := h'
      rw [Bool.and_eq_true] at h'
      rw [Rep.inj r r' h.1 h'.1, RepP.inj rs rs' h.2 h'.2]
end
theorem vget_self {κ : Type} [DecidableEq κ] {e : κ → Val} {c : κ → DK} (hc : ∀ k, dkey (e k) = some (c k)) (hi : ∀ a b, c a = c b → a = b) : ∀ {l : List (κ × V)} {kvs : List (Val × Val)}, (l.map (·.1)).Nodup → RepP K B (l.map fun p => (e p.1, p.2)) kvs →
    ∀ p ∈ kvs, ∃ d, dkey p.1 = some d ∧ vget kvs d = some p.2
  | [], _, _, .nil, p, hp => by cases hp
  | q :: l, _, hn, .cons (v := v) (kvs := kvs) r rs, p, hp => by
    rw [List.map_cons, List.nodup_cons] at hn
    rcases List.mem_cons.mp hp with e1 | hp
    · subst e1
      refine ⟨c q.1, hc _, ?_⟩
      unfold vget
      rw [List.find?_cons]
      simp only [hc, decide_true]
      rfl
    · obtain ⟨d, h1, h2⟩ := vget_self hc hi hn.2 rs p hp
      refine ⟨d, h1, ?_⟩
      unfold vget
      rw [List.find?_cons]
      have ne : ¬ dkey (e q.1) = some d := by
        intro z
        have hk := RepP.keys rs
        have : p.1 ∈ (l.map fun p => (e p.1, p.2)).map (·.1) := by rw [hk]; exact List.mem_map.mpr ⟨p, hp, rfl⟩
        rw [List.map_map] at this
        obtain ⟨u, hu, hu2⟩ := List.mem_map.mp this
        have hu2 : e u.1 = p.1 := hu2
        rw [← hu2] at h1
        rw [← h1] at z
        exact hn.1 (List.mem_map.mpr ⟨u, hu, ((dk_iff hc hi _ _).mp (z.trans (hc _))).symm⟩)
      simp only [ne, decide_false]
      exact h2
end
section
variable {X : Cx} {pins : List (Addr × Obj)} {σ : L2.St} {H B : Hp} {s : Shared}
theorem Rep.vgets (I : Inv X pins σ H s) (sb : Sub B H) {w : V} {t : Bool} {kvs : List (Val × Val)} (r : Rep X.K B w (.dic t kvs)) : ∀ p ∈ kvs, ∃ d, dkey p.1 = some d ∧ vget kvs d = some p.2 := by
  cases r with
  | dK e rp =>
    obtain ⟨_, _, vs, kv, _, _, _, _, _, _, _, _, nd⟩ := dk_rd I.hok (sb.rd e)
    exact vget_self (e := kVal) (c := Sum.inl) dkey_k inl_inj (by rw [kv.keys]; exact nd) rp
  | dT e rp =>
    obtain ⟨_, _, xs, kt, _, _, _, _, _, _, _, _, nd⟩ := dt_rd I.hok (sb.rd e)
    refine vget_self (e := fun ks => .tup (ks.map kVal)) (c := Sum.inr) dkey_t inr_inj ?_ rp
    have : ∀ {l : List (List Key × V)} {xs : List (List Key × Addr × Value)}, KT H l xs → l.map (·.1) = xs.map (·.1) := by
      intro l xs q
      induction q with
      | nil => rfl
      | cons h _ ih => rw [List.map_cons, List.map_cons, ih, h.1]
    rw [this kt]; exact nd
theorem veq_df {x y : Val} (h : (dfree x && dfree y) = true) : veq x y = PyData.eqv x.toD y.toD := by
  unfold veq
  rw [if_pos h]
mutual
theorem veq_self (I : Inv X pins σ H s) (sb : Sub B H) : ∀ {x : Val} {w : V}, Rep X.K B w x → vok x x = true → veq x x = true
  | x, w, r, h => by
    by_cases hd : (dfree x && dfree x) = true
    · rw [veq_df hd]
      rw [Bool.and_self] at hd
      unfold dfree at hd
      rw [Bool.and_eq_true] at hd
      exact eqv_refl_plain _ hd.2
    · unfold vok at h
      unfold veq
      rw [if_neg hd]
      simp only [hd, Bool.false_or, Bool.and_eq_true] at h
      cases r with
      | tup e rs => simp only [beq_self_eq_true, Bool.true_and]; exact veqs_self I sb rs h.2
      | lst e rs => simp only [beq_self_eq_true, Bool.true_and] at h ⊢; exact veqs_self I sb rs h.2
      | dK e rs => simp only [beq_self_eq_true, Bool.true_and] at h ⊢; exact veqp_self I sb rs (Rep.vgets I sb (.dK e rs)) h.2
      | dT e rs => simp only [beq_self_eq_true, Bool.true_and] at h ⊢; exact veqp_self I sb rs (Rep.vgets I sb (.dT e rs)) h.2
      | _ => exact absurd h.2 Bool.false_ne_true
theorem veqs_self (I : Inv X pins σ H s) (sb : Sub B H) : ∀ {xs : List Val} {ws : List V}, Reps X.K B ws xs → voks xs xs = true → veqs xs xs = true
  | [], _, .nil, _ => by unfold veqs; rfl
  | x :: xs, _, .cons r rs, h => by
    unfold voks at h
    unfold veqs
    rw [Bool.and_eq_true] at h ⊢
    exact ⟨veq_self I sb r h.1, veqs_self I sb rs h.2⟩
theorem veqp_self (I : Inv X pins σ H s) (sb : Sub B H) : ∀ {a b : List (Val × Val)} {l : List (Val × V)}, RepP X.K B l a → (∀ p ∈ a, ∃ d, dkey p.1 = some d ∧ vget b d = some p.2) → vokp a b = true → veqp a b = true
  | [], _, _, .nil, _, _ => by unfold veqp; rfl
  | (k, v) :: a, b, _, .cons r rs, hg, h => by
    unfold vokp at h
    unfold veqp
    rw [Bool.and_eq_true] at h ⊢
    obtain ⟨d, h1, h2⟩ := hg (k, v) List.mem_cons_self
    have h1 : dkey k = some d := h1
    have h2 : vget b d = some v := h2
    refine ⟨?_, veqp_self I sb rs (fun p hp => hg p (List.mem_cons_of_mem _ hp)) h.2⟩
    have h0 := h.1
    unfold vok2 at h0
    unfold veq2
    simp only [h1, h2] at h0 ⊢
    exact veq_self I sb r h0
end
theorem range_all (xs ys : List Val) (hl : xs.length = ys.length) : (List.range xs.length).all (fun j => veq (xs.getD j .non) (ys.getD j .non)) = veqs xs ys := by
  induction xs generalizing ys with
  | nil => cases ys with
    | nil => unfold veqs; rfl
    | cons _ _ => cases hl
  | cons x xs ih =>
    cases ys with
    | nil => cases hl
    | cons y ys =>
      rw [List.length_cons, List.range_succ_eq_map, List.all_cons, List.all_map]
      unfold veqs
      rw [← ih ys (by simpa using hl)]
      rfl
theorem depth_at {xs : List Val} {j : Nat} {x : Val} (h : xs[j]? = some x) : x.toD.depth ≤ PyData.depthAll (Val.toDs xs) := by
  induction xs generalizing j with
  | nil => simp at h
  | cons y r ih =>
    show x.toD.depth ≤ max y.toD.depth (PyData.depthAll (Val.toDs r))
    cases j with
    | zero => cases (show some y = some x by simpa using h); exact Nat.le_max_left _ _
    | succ j => exact Nat.le_trans (ih (by simpa using h)) (Nat.le_max_right _ _)
theorem vok_sub {xs ys : List Val} (h : voks xs ys = true) {j : Nat} {x y : Val} (hx : xs[j]? = some x) (hy : ys[j]? = some y) : vok x y = true := by
  induction xs generalizing ys j with
  | nil => simp at hx
  | cons a r ih =>
    cases ys with
    | nil => simp at hy
    | cons b q =>
      unfold voks at h
      rw [Bool.and_eq_true] at h
      cases j with
      | zero =>
        cases (show some a = some x by simpa using hx)
        cases (show some b = some y by simpa using hy)
        exact h.1
      | succ j => exact ih h.2 (by simpa using hx) (by simpa using hy)
theorem getD_of {xs : List Val} {j : Nat} {x : Val} (h : xs[j]? = some x) : xs.getD j .non = x := by
  rw [List.getD_eq_getElem?_getD, h]; rfl
theorem eq_df (I : Inv X pins σ H s) (sb : Sub B H) {A : Around} {x y : Val} {w u : V} {v z : Value} (r1 : Rep X.K B w x) (r2 : Rep X.K B u y) (q1 : RelV w v) (q2 : RelV u z) (h : (dfree x && dfree y) = true) (hu : A.units + x.toD.depth < cLine) : EqAt A s v z (veq x y) := by
  rw [veq_df h]
  rw [Bool.and_eq_true] at h
  unfold dfree at h
  rw [Bool.and_eq_true, Bool.and_eq_true] at h
  obtain ⟨as, h1⟩ := Rep.reads I sb r1 q1 h.1.1
  obtain ⟨bs, h2⟩ := Rep.reads I sb r2 q2 h.2.1
  exact eqAt_plain _ _ A s v z as bs h1 h2 h.1.2 h.2.2 (Nat.lt_of_le_of_lt (Nat.add_le_add_left (Nat.min_le_left _ _) _) hu)
/-- two refs whose comparison is told -/
theorem eq_refs (I : Inv X pins σ H s) (sb : Sub B H) {A : Around} {x y : Val} {a b : Addr} (r1 : Rep X.K B (.ref a) x) (r2 : Rep X.K B (.ref b) y) (hk : vok x y = true) (ho : ((x.own && y.own) && (x.pure && y.pure)) = true)
    (h : ∀ (E Q : Value → Shared → Prop), Q (.bool (veq x y)) s → wpAny (model X.prog X.w) A (richCompare .Eq (.ref a) (.ref b)) Q E s) : EqIn X.prog X.w A s (.ref a) (.ref b) (veq x y) := by
  by_cases e : a = b
  · subst e
    rw [Bool.and_eq_true, Bool.and_eq_true] at ho
    have q := Rep.inj r1 r2 ho.1.1 ho.1.2
    subst q
    rw [veq_self I sb r1 hk]
    exact EqAt.inModel (EqAt.same _) _ _
  · exact EqIn.of_refs e h
theorem list_items {K : PySem.W.Frag} {ws : List V} {xs : List Val} {its : List Value} (r : Reps K B ws xs) (v : Vals ws its) {j : Nat} (h : j < its.toArray.size) : ∃ w x, ws[j]? = some w ∧ xs[j]? = some x ∧ Rep K B w x ∧ RelV w its.toArray[j] := by
  have hj : j < ws.length := by rw [v.length]; simpa using h
  obtain ⟨x, hx, rx⟩ := r.at (List.getElem?_eq_getElem hj)
  obtain ⟨u, hu, ru⟩ := v.get (List.getElem?_eq_getElem hj)
  refine ⟨ws[j], x, List.getElem?_eq_getElem hj, hx, rx, ?_⟩
  have : its[j]? = some its.toArray[j] := by simp
  rw [this] at hu
  cases hu
  exact ru
theorem veq_tup {xs ys : List Val} (hd : ¬ (dfree (.tup xs) && dfree (.tup ys)) = true) : veq (.tup xs) (.tup ys) = ((List.range (min xs.length ys.length)).all (fun j => veq (xs.getD j .non) (ys.getD j .non)) && (xs.length == ys.length)) := by
  conv => lhs; unfold veq
  rw [if_neg hd]
  simp only
  by_cases hl : xs.length = ys.length
  · rw [← hl, Nat.min_self, range_all xs ys hl, hl, Bool.and_comm]
  · have : (xs.length == ys.length) = false := by simpa using hl
    rw [this, Bool.and_false, Bool.false_and]
theorem rc_tup (I : Inv X pins σ H s) (sb : Sub B H) {A : Around} {xs ys : List Val} {a b : Addr} (r1 : Rep X.K B (.ref a) (.tup xs)) (r2 : Rep X.K B (.ref b) (.tup ys)) (hu : A.units < cLine) (hd : ¬ (dfree (.tup xs) && dfree (.tup ys)) = true)
    (it : ∀ (j : Nat) (x y : Val) (w1 w2 : V) (v1 v2 : Value), xs[j]? = some x → ys[j]? = some y → Rep X.K B w1 x → Rep X.K B w2 y → RelV w1 v1 → RelV w2 v2 → EqIn X.prog X.w A.in1 s v1 v2 (veq x y))
    (E Q : Value → Shared → Prop) (hq : Q (.bool (veq (.tup xs) (.tup ys))) s) : wpAny (model X.prog X.w) A (richCompare .Eq (.ref a) (.ref b)) Q E s := by
  obtain ⟨a, ws, e1, ha, rs⟩ := r1.seqT
  cases e1
  obtain ⟨b, us, e2, hb, rt⟩ := r2.seqT
  cases e2
  obtain ⟨its, v1, p1, _⟩ := I.tuple (SqT.of (sb _ _ ha))
  obtain ⟨jts, v2, p2, _⟩ := I.tuple (SqT.of (sb _ _ hb))
  refine rcIn_tuples (e := fun j => veq (xs.getD j .non) (ys.getD j .non)) (show s.heap.IsTuple a its.toArray from p1) (show s.heap.IsTuple b jts.toArray from p2) hu (fun j h1 h2 => ?_) ?_
  · obtain ⟨w1, x1, e1, f1, g1, k1⟩ := list_items rs v1 h1
    obtain ⟨w2, x2, e2, f2, g2, k2⟩ := list_items rt v2 h2
    rw [getD_of f1, getD_of f2]
    exact it j x1 x2 w1 w2 _ _ f1 f2 g1 g2 k1 k2
  · have l1 : its.toArray.size = xs.length := by rw [List.size_toArray, ← v1.length, rs.length]
    have l2 : jts.toArray.size = ys.length := by rw [List.size_toArray, ← v2.length, rt.length]
    rw [l1, l2, ← veq_tup hd]
    exact hq
theorem ne_tup (I : Inv X pins σ H s) (sb : Sub B H) {A : Around} {xs ys : List Val} {a b : Addr} (r1 : Rep X.K B (.ref a) (.tup xs)) (r2 : Rep X.K B (.ref b) (.tup ys)) (hu : A.units < cLine) (hd : ¬ (dfree (.tup xs) && dfree (.tup ys)) = true)
    (it : ∀ (j : Nat) (x y : Val) (w1 w2 : V) (v1 v2 : Value), xs[j]? = some x → ys[j]? = some y → Rep X.K B w1 x → Rep X.K B w2 y → RelV w1 v1 → RelV w2 v2 → EqIn X.prog X.w A.in1 s v1 v2 (veq x y))
    (E Q : Value → Shared → Prop) (hq : Q (.bool (!veq (.tup xs) (.tup ys))) s) : wpAny (model X.prog X.w) A (richCompare .NotEq (.ref a) (.ref b)) Q E s := by
  obtain ⟨a, ws, e1, ha, rs⟩ := r1.seqT
  cases e1
  obtain ⟨b, us, e2, hb, rt⟩ := r2.seqT
  cases e2
  obtain ⟨its, v1, p1, _⟩ := I.tuple (SqT.of (sb _ _ ha))
  obtain ⟨jts, v2, p2, _⟩ := I.tuple (SqT.of (sb _ _ hb))
  refine rcNe_tuples (e := fun j => veq (xs.getD j .non) (ys.getD j .non)) (show s.heap.IsTuple a its.toArray from p1) (show s.heap.IsTuple b jts.toArray from p2) hu (fun j h1 h2 => ?_) ?_
  · obtain ⟨w1, x1, e1, f1, g1, k1⟩ := list_items rs v1 h1
    obtain ⟨w2, x2, e2, f2, g2, k2⟩ := list_items rt v2 h2
    rw [getD_of f1, getD_of f2]
    exact it j x1 x2 w1 w2 _ _ f1 f2 g1 g2 k1 k2
  · have l1 : its.toArray.size = xs.length := by rw [List.size_toArray, ← v1.length, rs.length]
    have l2 : jts.toArray.size = ys.length := by rw [List.size_toArray, ← v2.length, rt.length]
    rw [l1, l2, ← veq_tup hd]
    exact hq
theorem rc_lst (I : Inv X pins σ H s) (sb : Sub B H) {A : Around} {xs ys : List Val} {a b : Addr} (r1 : Rep X.K B (.ref a) (.lst xs)) (r2 : Rep X.K B (.ref b) (.lst ys)) (hu : A.units < cLine) (hd : ¬ (dfree (.lst xs) && dfree (.lst ys)) = true) (hl : xs.length = ys.length)
    (it : ∀ (j : Nat) (x y : Val) (w1 w2 : V) (v1 v2 : Value), xs[j]? = some x → ys[j]? = some y → Rep X.K B w1 x → Rep X.K B w2 y → RelV w1 v1 → RelV w2 v2 → EqIn X.prog X.w A.in1 s v1 v2 (veq x y))
    (E Q : Value → Shared → Prop) (hq : Q (.bool (veq (.lst xs) (.lst ys))) s) : wpAny (model X.prog X.w) A (richCompare .Eq (.ref a) (.ref b)) Q E s := by
  obtain ⟨a, ws, e1, ha, rs⟩ := r1.seqL
  cases e1
  obtain ⟨b, us, e2, hb, rt⟩ := r2.seqL
  cases e2
  obtain ⟨its, v1, p1, _⟩ := I.list (SqL.of (sb _ _ ha))
  obtain ⟨jts, v2, p2, _⟩ := I.list (SqL.of (sb _ _ hb))
  have l1 : its.toArray.size = xs.length := by rw [List.size_toArray, ← v1.length, rs.length]
  have l2 : jts.toArray.size = ys.length := by rw [List.size_toArray, ← v2.length, rt.length]
  refine rcIn_lists (e := fun j => veq (xs.getD j .non) (ys.getD j .non)) p1.isList p2.isList (by rw [l1, l2, hl]) hu (fun j h1 h2 => ?_) ?_
  · obtain ⟨w1, x1, e1, f1, g1, k1⟩ := list_items rs v1 h1
    obtain ⟨w2, x2, e2, f2, g2, k2⟩ := list_items rt v2 h2
    rw [getD_of f1, getD_of f2]
    exact it j x1 x2 w1 w2 _ _ f1 f2 g1 g2 k1 k2
  · unfold veq at hq
    rw [if_neg hd] at hq
    simp only at hq
    rw [l1, range_all xs ys hl]
    have : (xs.length == ys.length) = true := by simpa using hl
    rw [this, Bool.true_and] at hq
    exact hq
theorem vok_in {m m2 : List (Val × Val)} (h : vokp m m2 = true) {k v u : Val} {d : DK} (hm : (k, v) ∈ m) (h1 : dkey k = some d) (h2 : vget m2 d = some u) : vok v u = true := by
  induction m with
  | nil => cases hm
  | cons p r ih =>
    unfold vokp at h
    rw [Bool.and_eq_true] at h
    rcases List.mem_cons.mp hm with e | hm
    · subst e
      have := h.1
      unfold vok2 at this
      simpa only [h1, h2] using this
    · exact ih h.2 hm
theorem depth_in {m : List (Val × Val)} {k v : Val} (hm : (k, v) ∈ m) : v.toD.depth ≤ PyData.depthKv (Val.toDp m) := by
  induction m with
  | nil => cases hm
  | cons p r ih =>
    obtain ⟨a, b⟩ := p
    show _ ≤ max (max a.toD.depth b.toD.depth) (PyData.depthKv (Val.toDp r))
    rcases List.mem_cons.mp hm with e | hm
    · cases e
      exact Nat.le_trans (Nat.le_max_right _ _) (Nat.le_max_left _ _)
    · exact Nat.le_trans (ih hm) (Nat.le_max_right _ _)
theorem veqp_cons (k v : Val) (r b : List (Val × Val)) (d : DK) (h : dkey k = some d) : veqp ((k, v) :: r) b = ((match vget b d with | some u => veq v u | none => false) && veqp r b) := by
  conv => lhs; unfold veqp
  conv => lhs; unfold veq2
  simp only [h]
theorem kv_len {l : List (Key × V)} {vs : List (Key × Value)} (kv : KV l vs) : l.length = vs.length := Paired.length kv
theorem dic_k (I : Inv X pins σ H s) (sb : Sub B H) {A : Around} {m m2 : List (Val × Val)} {a b : Addr} (r1 : Rep X.K B (.ref a) (.dic false m)) (r2 : Rep X.K B (.ref b) (.dic false m2)) (hu : A.units < cLine)
    (vg : ∀ p ∈ m, ∃ d, dkey p.1 = some d ∧ vget m d = some p.2)
    (go : ∀ (k : Val) (v1 v2 : Val) (d : DK) (w1 w2 : V) (y1 y2 : Value), (k, v1) ∈ m → dkey k = some d → vget m2 d = some v2 → Rep X.K B w1 v1 → Rep X.K B w2 v2 → RelV w1 y1 → RelV w2 y2 → EqIn X.prog X.w A.in1 s y1 y2 (veq v1 v2))
    (E Q : Value → Shared → Prop) (hq : Q (.bool ((m.length == m2.length) && veqp m m2)) s) : wpAny (model X.prog X.w) A (richCompare .Eq (.ref a) (.ref b)) Q E s := by
  cases r1 with
  | dK e1 rp1 =>
    cases r2 with
    | dK e2 rp2 =>
      rename_i l1 l2
      obtain ⟨_, ya, va, ra, da⟩ := dk_rd I.hok (sb.rd e1)
      obtain ⟨_, yb, vb, rb, db⟩ := dk_rd I.hok (sb.rd e2)
      have hits : ∀ {l : List (Key × V)} {vs : List (Key × Value)}, KV l vs → ∀ {kvs : List (Val × Val)}, RepP X.K B (l.map kK) kvs → (∀ p ∈ kvs, p ∈ m) → PySem.W.KeqHitsP X.prog X.w A.in1 s vb vs (veqp kvs m2) := by
        intro l vs q
        unfold KV at q
        induction q with
        | nil => intro kvs rp _; cases rp; unfold veqp; exact .nil
        | @cons p q ps qs h t ih =>
          intro kvs rp hm
          cases rp with
          | cons r rs =>
            rename_i v kvs
            obtain ⟨k, y⟩ := q
            have h1 : p.1 = k := h.1
            rw [veqp_cons _ _ _ _ _ (dkey_k p.1)]
            have rest := ih rs fun p' hp => hm p' (List.mem_cons_of_mem _ hp)
            have rr := rb.val p.1
            rcases RepP.get (e := kVal) (c := Sum.inl) dkey_k inl_inj p.1 rp2 with ⟨g1, g2⟩ | ⟨w2, v2, g1, g2, g3⟩
            · rw [g1] at rr
              rw [g2]
              refine .miss ?_
              rw [← h1]; exact rr.none_of
            · rw [g1] at rr
              obtain ⟨y2, hy, ry⟩ := rr.some_of
              rw [g2]
              refine .hit (y := y2) (by rw [← h1]; exact hy) ?_ rest
              exact go _ v v2 _ _ _ _ _ (hm _ List.mem_cons_self) (dkey_k p.1) g2 r g3 h.2 ry
      refine PySem.W.rcP_dicts (knd := mixKind X.prog X.w) (r := veqp m m2) ya yb da db hu (fun _ => hits ra rp1 fun _ h => h) E Q ?_
      have e1' : va.length = m.length := by rw [← kv_len ra, ← rp1.length, List.length_map]
      have e2' : vb.length = m2.length := by rw [← kv_len rb, ← rp2.length, List.length_map]
      rw [e1', e2']
      exact hq
theorem dic_t (I : Inv X pins σ H s) (sb : Sub B H) {A : Around} {m m2 : List (Val × Val)} {a b : Addr} (r1 : Rep X.K B (.ref a) (.dic true m)) (r2 : Rep X.K B (.ref b) (.dic true m2)) (hu : A.units + 1 < cLine)
    (vg : ∀ p ∈ m, ∃ d, dkey p.1 = some d ∧ vget m d = some p.2)
    (go : ∀ (k : Val) (v1 v2 : Val) (d : DK) (w1 w2 : V) (y1 y2 : Value), (k, v1) ∈ m → dkey k = some d → vget m2 d = some v2 → Rep X.K B w1 v1 → Rep X.K B w2 v2 → RelV w1 y1 → RelV w2 y2 → EqIn X.prog X.w A.in1 s y1 y2 (veq v1 v2))
    (E Q : Value → Shared → Prop) (hq : Q (.bool ((m.length == m2.length) && veqp m m2)) s) : wpAny (model X.prog X.w) A (richCompare .Eq (.ref a) (.ref b)) Q E s := by
  cases r1 with
  | dT e1 rp1 =>
    cases r2 with
    | dT e2 rp2 =>
      rename_i l1 l2
      obtain ⟨_, ya, va, ra, da⟩ := dt_rd I.hok (sb.rd e1)
      obtain ⟨_, yb, vb, rb, db⟩ := dt_rd I.hok (sb.rd e2)
      -- what the two say at a key
      let ef : List Key → Bool := fun k => match vget m (.inr k), vget m2 (.inr k) with
        | some x, some y => veq x y
        | _, _ => false
      have all : ∀ {l : List (List Key × V)} {xs : List (List Key × Addr × Value)}, KT H l xs → ∀ {kvs : List (Val × Val)}, RepP X.K B (l.map kT) kvs → (∀ p ∈ kvs, p ∈ m) →
          sameH vb ef xs = veqp kvs m2 ∧ ∀ x ∈ xs, ∀ p, atKey vb x.1 = some p → EqIn X.prog X.w A.in1 s x.2.2 p.2 (ef x.1) := by
        intro l xs q
        induction q with
        | nil => intro kvs rp _; cases rp; refine ⟨?_, fun x hx => by cases hx⟩; unfold veqp; rfl
        | @cons p q ps qs h t ih =>
          intro kvs rp hm
          cases rp with
          | cons r rs =>
            rename_i v kvs
            obtain ⟨i1, i2⟩ := ih rs fun p' hp => hm p' (List.mem_cons_of_mem _ hp)
            have h1 : p.1 = q.1 := h.1
            have vgm : vget m (.inr p.1) = some v := by
              obtain ⟨d, d1, d2⟩ := vg (.tup (p.1.map kVal), v) (hm _ List.mem_cons_self)
              have d1 : dkey (.tup (p.1.map kVal)) = some d := d1
              rw [dkey_t] at d1
              cases d1
              exact d2
            have rr := rb.val p.1
            rcases RepP.get (e := fun ks => .tup (ks.map kVal)) (c := Sum.inr) dkey_t inr_inj p.1 rp2 with ⟨g1, g2⟩ | ⟨w2, v2, g1, g2, g3⟩
            · rw [g1] at rr
              have z : atKey vb q.1 = none := by
                have := rr.none_of
                rw [h1] at this
                cases zz : atKey vb q.1 with
                | none => rfl
                | some _ => rw [zz] at this; cases this
              refine ⟨?_, fun x hx p' hp' => ?_⟩
              · show ((atKey vb q.1).isSome && ef q.1 && sameH vb ef qs) = _
                rw [z, veqp_cons _ _ _ _ _ (dkey_t p.1), g2]
                rfl
              · rcases List.mem_cons.mp hx with e | hx
                · subst e; rw [z] at hp'; cases hp'
                · exact i2 x hx p' hp'
            · rw [g1] at rr
              obtain ⟨y2, hy, ry⟩ := rr.some_of
              have efq : ef q.1 = veq v v2 := by
                show (match vget m (.inr q.1), vget m2 (.inr q.1) with | some x, some y => veq x y | _, _ => false) = _
                rw [← h1, vgm, g2]
              cases zz : atKey vb q.1 with
              | none => rw [h1, zz] at hy; cases hy
              | some pp =>
                rw [h1, zz] at hy
                have hy : pp.2 = y2 := Option.some.inj hy
                refine ⟨?_, fun x hx p' hp' => ?_⟩
                · show ((atKey vb q.1).isSome && ef q.1 && sameH vb ef qs) = _
                  rw [zz, efq, i1, veqp_cons _ _ _ _ _ (dkey_t p.1), g2]
                  rfl
                · rcases List.mem_cons.mp hx with e | hx
                  · subst e
                    rw [zz] at hp'
                    cases hp'
                    rw [efq, hy]
                    exact go _ v v2 _ _ _ _ _ (hm _ List.mem_cons_self) (dkey_t p.1) g2 r g3 h.2.2 ry
                  · exact i2 x hx p' hp'
      obtain ⟨a1, a2⟩ := all ra rp1 fun _ h => h
      refine rc_dictsH (knd := tupleKind (mixKind X.prog X.w)) (e := ef) ya yb (by omega) (show A.in1.units < cLine from by show A.units + 1 < cLine; omega) da db a2 E Q ?_
      have e1' : va.length = m.length := by rw [← Paired.length ra, ← rp1.length, List.length_map]
      have e2' : vb.length = m2.length := by rw [← Paired.length rb, ← rp2.length, List.length_map]
      rw [e1', e2', a1]
      exact hq
mutual
theorem eq_run (I : Inv X pins σ H s) (sb : Sub B H) : ∀ {x y : Val} {A : Around} {w u : V} {v z : Value}, Rep X.K B w x → Rep X.K B u y → RelV w v → RelV u z → vok x y = true → A.units + x.toD.depth < cLine → EqIn X.prog X.w A s v z (veq x y)
  | .tup xs, y, A, w, u, v, z, r1, r2, q1, q2, hk, hu => by
    by_cases hd : (dfree (.tup xs) && dfree y) = true
    · exact EqAt.inModel (eq_df I sb r1 r2 q1 q2 hd hu) _ _
    · have hk0 := hk
      unfold vok at hk
      simp only [hd, Bool.false_or] at hk
      rw [Bool.and_eq_true] at hk
      cases y with
      | tup ys =>
        obtain ⟨a, ws, rfl, ha, rs⟩ := r1.seqT
        obtain ⟨b, us, rfl, hb, rt⟩ := r2.seqT
        cases q1; cases q2
        have e : (Val.tup xs).toD.depth = PyData.depthAll (Val.toDs xs) + 1 := rfl
        rw [e] at hu
        exact eq_refs I sb r1 r2 hk0 hk.1 fun E Q hq => rc_tup I sb r1 r2 (by omega) hd (fun j x y w1 w2 v1 v2 f1 f2 g1 g2 k1 k2 =>
          eqs_run I sb (A := A.in1) f1 g1 g2 k1 k2 (vok_sub hk.2 f1 f2) (by have := depth_at f1; show A.units + 1 + _ < cLine; omega)) E Q hq
      | _ => exact absurd hk.2 Bool.false_ne_true
  | .lst xs, y, A, w, u, v, z, r1, r2, q1, q2, hk, hu => by
    by_cases hd : (dfree (.lst xs) && dfree y) = true
    · exact EqAt.inModel (eq_df I sb r1 r2 q1 q2 hd hu) _ _
    · have hk0 := hk
      unfold vok at hk
      simp only [hd, Bool.false_or] at hk
      rw [Bool.and_eq_true] at hk
      cases y with
      | lst ys =>
        obtain ⟨a, ws, rfl, ha, rs⟩ := r1.seqL
        obtain ⟨b, us, rfl, hb, rt⟩ := r2.seqL
        cases q1; cases q2
        have hk2 := hk.2
        simp only [Bool.and_eq_true, beq_iff_eq] at hk2
        have e : (Val.lst xs).toD.depth = PyData.depthAll (Val.toDs xs) + 1 := rfl
        rw [e] at hu
        exact eq_refs I sb r1 r2 hk0 hk.1 fun E Q hq => rc_lst I sb r1 r2 (by omega) hd hk2.1 (fun j x y w1 w2 v1 v2 f1 f2 g1 g2 k1 k2 =>
          eqs_run I sb (A := A.in1) f1 g1 g2 k1 k2 (vok_sub hk2.2 f1 f2) (by have := depth_at f1; show A.units + 1 + _ < cLine; omega)) E Q hq
      | _ => exact absurd hk.2 Bool.false_ne_true
  | .dic t m, y, A, w, u, v, z, r1, r2, q1, q2, hk, hu => by
    by_cases hd : (dfree (.dic t m) && dfree y) = true
    · exact EqAt.inModel (eq_df I sb r1 r2 q1 q2 hd hu) _ _
    · have hk0 := hk
      unfold vok at hk
      simp only [hd, Bool.false_or] at hk
      rw [Bool.and_eq_true] at hk
      cases y with
      | dic t2 m2 =>
        have hk2 := hk.2
        simp only [Bool.and_eq_true, beq_iff_eq] at hk2
        obtain ⟨rfl, hk3⟩ := hk2
        have ed : (Val.dic t m).toD.depth = PyData.depthKv (Val.toDp m) + 1 := rfl
        rw [ed] at hu
        have go : ∀ (k : Val) (v1 v2 : Val) (d : DK) (w1 w2 : V) (y1 y2 : Value), (k, v1) ∈ m → dkey k = some d → vget m2 d = some v2 → Rep X.K B w1 v1 → Rep X.K B w2 v2 → RelV w1 y1 → RelV w2 y2 → EqIn X.prog X.w A.in1 s y1 y2 (veq v1 v2) :=
          fun k v1 v2 d w1 w2 y1 y2 hm h1 h2 g1 g2 k1 k2 => eqp_run I sb (A := A.in1) hm g1 g2 k1 k2 (vok_in hk3 hm h1 h2) (by have := depth_in hm; show A.units + 1 + _ < cLine; omega)
        have vg := Rep.vgets I sb r1
        have fin : veq (.dic t m) (.dic t m2) = ((m.length == m2.length) && veqp m m2) := by
          conv => lhs; unfold veq
          rw [if_neg hd]
        have ref : ∃ a b, w = .ref a ∧ u = .ref b := by
          cases r1 <;> cases r2 <;> exact ⟨_, _, rfl, rfl⟩
        obtain ⟨a, b, rfl, rfl⟩ := ref
        cases q1; cases q2
        refine eq_refs I sb r1 r2 hk0 hk.1 fun E Q hq => ?_
        rw [fin] at hq
        cases t with
        | false => exact dic_k I sb r1 r2 (by omega) vg go E Q hq
        | true => exact dic_t I sb r1 r2 (by omega) vg go E Q hq
      | _ => exact absurd hk.2 Bool.false_ne_true
  | .non, y, A, w, u, v, z, r1, r2, q1, q2, hk, hu => by
    by_cases hd : (dfree .non && dfree y) = true
    · exact EqAt.inModel (eq_df I sb r1 r2 q1 q2 hd hu) _ _
    · unfold vok at hk; simp [hd] at hk
  | .bl c, y, A, w, u, v, z, r1, r2, q1, q2, hk, hu => by
    by_cases hd : (dfree (.bl c) && dfree y) = true
    · exact EqAt.inModel (eq_df I sb r1 r2 q1 q2 hd hu) _ _
    · unfold vok at hk; simp [hd] at hk
  | .int c, y, A, w, u, v, z, r1, r2, q1, q2, hk, hu => by
    by_cases hd : (dfree (.int c) && dfree y) = true
    · exact EqAt.inModel (eq_df I sb r1 r2 q1 q2 hd hu) _ _
    · unfold vok at hk; simp [hd] at hk
  | .str c, y, A, w, u, v, z, r1, r2, q1, q2, hk, hu => by
    by_cases hd : (dfree (.str c) && dfree y) = true
    · exact EqAt.inModel (eq_df I sb r1 r2 q1 q2 hd hu) _ _
    · unfold vok at hk; simp [hd] at hk
  | .wtup c, y, A, w, u, v, z, r1, r2, q1, q2, hk, hu => by
    by_cases hd : (dfree (.wtup c) && dfree y) = true
    · exact EqAt.inModel (eq_df I sb r1 r2 q1 q2 hd hu) _ _
    · unfold vok at hk; simp [hd] at hk
  | .wlst c, y, A, w, u, v, z, r1, r2, q1, q2, hk, hu => by
    by_cases hd : (dfree (.wlst c) && dfree y) = true
    · exact EqAt.inModel (eq_df I sb r1 r2 q1 q2 hd hu) _ _
    · unfold vok at hk; simp [hd] at hk
  | .adr c, y, A, w, u, v, z, r1, r2, q1, q2, hk, hu => by
    by_cases hd : (dfree (.adr c) && dfree y) = true
    · exact EqAt.inModel (eq_df I sb r1 r2 q1 q2 hd hu) _ _
    · unfold vok at hk; simp [hd] at hk
theorem eqp_run (I : Inv X pins σ H s) (sb : Sub B H) : ∀ {m : List (Val × Val)} {k x y : Val} {A : Around} {w u : V} {v z : Value}, (k, x) ∈ m → Rep X.K B w x → Rep X.K B u y → RelV w v → RelV u z → vok x y = true → A.units + x.toD.depth < cLine → EqIn X.prog X.w A s v z (veq x y)
  | [], _, _, _, _, _, _, _, _, e, _, _, _, _, _, _ => by cases e
  | (k', x') :: r, k, x, y, A, w, u, v, z, e, r1, r2, q1, q2, hk, hu => by
    by_cases c : x' = x
    · rw [← c] at r1 hk hu ⊢
      exact eq_run I sb r1 r2 q1 q2 hk hu
    · refine eqp_run I sb (m := r) (k := k) ((List.mem_cons.mp e).resolve_left fun q => ?_) r1 r2 q1 q2 hk hu
      cases q
      exact c rfl
theorem eqs_run (I : Inv X pins σ H s) (sb : Sub B H) : ∀ {xs : List Val} {j : Nat} {x y : Val} {A : Around} {w u : V} {v z : Value}, xs[j]? = some x → Rep X.K B w x → Rep X.K B u y → RelV w v → RelV u z → vok x y = true → A.units + x.toD.depth < cLine → EqIn X.prog X.w A s v z (veq x y)
  | [], _, _, _, _, _, _, _, _, e, _, _, _, _, _, _ => by simp at e
  | a :: r, 0, x, y, A, w, u, v, z, e, r1, r2, q1, q2, hk, hu => by
    have e : a = x := by simpa using e
    rw [← e] at r1 hk hu ⊢
    exact eq_run I sb r1 r2 q1 q2 hk hu
  | a :: r, j + 1, x, y, A, w, u, v, z, e, r1, r2, q1, q2, hk, hu => eqs_run I sb (xs := r) (j := j) (by simpa using e) r1 r2 q1 q2 hk hu
end
/-! ### == and != as operators -/
def dep64 (x : Val) : Bool := decide (x.toD.depth ≤ 50)
def gEq (x y : Val) : Option Val := if vok x y && dep64 x then some (.bl (veq x y)) else none
def gNe (x y : Val) : Option Val := if vok x y && dep64 x then match x, y with
    | .tup _, .tup _ => some (.bl (!veq x y))
    | _, _ => if dfree x && dfree y then some (.bl (!veq x y)) else none
  else none
/-- the operator by values, its operands looked at -/
def OpV (X : Cx) (f : Value → Value → Sem Value) (g : Val → Val → Option Val) : Prop := ∀ (pins : List (Addr × Obj)) (s : Shared) (σ : L2.St) (H B : Hp) (w u : V) (v z : Value) (x y r : Val) (Q : VK), Inv X pins σ H s → Sub B H → Rep X.K B w x → Rep X.K B u y → RelV w v → RelV u z →
    g x y = some r → (∀ q, (∀ F, Rep X.K F q r) → Q q H) → wpAny (model X.prog X.w) X.A (f v z) (EP X pins σ Q) X.xe s
/-- compared at the top -/
theorem rc_run (I : Inv X pins σ H s) (sb : Sub B H) {x y : Val} {A : Around} {w u : V} {v z : Value} (r1 : Rep X.K B w x) (r2 : Rep X.K B u y) (q1 : RelV w v) (q2 : RelV u z) (hk : vok x y = true) (hu : A.units + x.toD.depth < cLine)
    (E Q : Value → Shared → Prop) (hq : Q (.bool (veq x y)) s) : wpAny (model X.prog X.w) A (richCompare .Eq v z) Q E s := by
  by_cases hd : (dfree x && dfree y) = true
  · rw [veq_df hd] at hq
    rw [Bool.and_eq_true] at hd
    unfold dfree at hd
    rw [Bool.and_eq_true, Bool.and_eq_true] at hd
    obtain ⟨as, h1⟩ := Rep.reads I sb r1 q1 hd.1.1
    obtain ⟨bs, h2⟩ := Rep.reads I sb r2 q2 hd.2.1
    exact rcAt_plain h1 h2 hd.1.2 hd.2.2 (Nat.lt_of_le_of_lt (Nat.add_le_add_left (Nat.min_le_left _ _) _) hu) _ _ _ _ hq
  · unfold vok at hk
    simp only [hd, Bool.false_or] at hk
    rw [Bool.and_eq_true] at hk
    cases x with
    | tup xs =>
      cases y with
      | tup ys =>
        obtain ⟨a, ws, rfl, ha, rs⟩ := r1.seqT
        obtain ⟨b, us, rfl, hb, rt⟩ := r2.seqT
        cases q1; cases q2
        have e : (Val.tup xs).toD.depth = PyData.depthAll (Val.toDs xs) + 1 := rfl
        rw [e] at hu
        exact rc_tup I sb r1 r2 (by omega) hd (fun j x y w1 w2 v1 v2 f1 f2 g1 g2 k1 k2 => eq_run I sb (A := A.in1) g1 g2 k1 k2 (vok_sub hk.2 f1 f2) (by have := depth_at f1; show A.units + 1 + _ < cLine; omega)) E Q hq
      | _ => exact absurd hk.2 Bool.false_ne_true
    | lst xs =>
      cases y with
      | lst ys =>
        obtain ⟨a, ws, rfl, ha, rs⟩ := r1.seqL
        obtain ⟨b, us, rfl, hb, rt⟩ := r2.seqL
        cases q1; cases q2
        have hk2 := hk.2
        simp only [Bool.and_eq_true, beq_iff_eq] at hk2
        have e : (Val.lst xs).toD.depth = PyData.depthAll (Val.toDs xs) + 1 := rfl
        rw [e] at hu
        exact rc_lst I sb r1 r2 (by omega) hd hk2.1 (fun j x y w1 w2 v1 v2 f1 f2 g1 g2 k1 k2 => eq_run I sb (A := A.in1) g1 g2 k1 k2 (vok_sub hk2.2 f1 f2) (by have := depth_at f1; show A.units + 1 + _ < cLine; omega)) E Q hq
      | _ => exact absurd hk.2 Bool.false_ne_true
    | dic t m =>
      cases y with
      | dic t2 m2 =>
        have hk2 := hk.2
        simp only [Bool.and_eq_true, beq_iff_eq] at hk2
        obtain ⟨rfl, hk3⟩ := hk2
        have ed : (Val.dic t m).toD.depth = PyData.depthKv (Val.toDp m) + 1 := rfl
        rw [ed] at hu
        have go : ∀ (k : Val) (v1 v2 : Val) (d : DK) (w1 w2 : V) (y1 y2 : Value), (k, v1) ∈ m → dkey k = some d → vget m2 d = some v2 → Rep X.K B w1 v1 → Rep X.K B w2 v2 → RelV w1 y1 → RelV w2 y2 → EqIn X.prog X.w A.in1 s y1 y2 (veq v1 v2) :=
          fun k v1 v2 d w1 w2 y1 y2 hm h1 h2 g1 g2 k1 k2 => eq_run I sb (A := A.in1) g1 g2 k1 k2 (vok_in hk3 hm h1 h2) (by have := depth_in hm; show A.units + 1 + _ < cLine; omega)
        have vg := Rep.vgets I sb r1
        have fin : veq (.dic t m) (.dic t m2) = ((m.length == m2.length) && veqp m m2) := by
          conv => lhs; unfold veq
          rw [if_neg hd]
        have ref : ∃ a b, w = .ref a ∧ u = .ref b := by
          cases r1 <;> cases r2 <;> exact ⟨_, _, rfl, rfl⟩
        obtain ⟨a, b, rfl, rfl⟩ := ref
        cases q1; cases q2
        rw [fin] at hq
        cases t with
        | false => exact dic_k I sb r1 r2 (by omega) vg go E Q hq
        | true => exact dic_t I sb r1 r2 (by omega) vg go E Q hq
      | _ => exact absurd hk.2 Bool.false_ne_true
    | _ => exact absurd hk.2 Bool.false_ne_true
theorem ne_run (I : Inv X pins σ H s) (sb : Sub B H) {x y : Val} {A : Around} {w u : V} {v z : Value} (r1 : Rep X.K B w x) (r2 : Rep X.K B u y) (q1 : RelV w v) (q2 : RelV u z) {r : Val} (hk : gNe x y = some r) (hu : A.units + 64 < cLine)
    (E Q : Value → Shared → Prop) (hq : Q (.bool (!veq x y)) s) : r = .bl (!veq x y) ∧ wpAny (model X.prog X.w) A (compareOp .NotEq v z) Q E s := by
  unfold gNe at hk
  split at hk
  · rename_i h0
    rw [Bool.and_eq_true] at h0
    have hz : x.toD.depth ≤ 50 := of_decide_eq_true h0.2
    have dfc : (dfree x && dfree y) = true → wpAny (model X.prog X.w) A (compareOp .NotEq v z) Q E s := by
      intro hd
      rw [veq_df hd] at hq
      rw [Bool.and_eq_true] at hd
      unfold dfree at hd
      rw [Bool.and_eq_true, Bool.and_eq_true] at hd
      obtain ⟨as, h1⟩ := Rep.reads I sb r1 q1 hd.1.1
      obtain ⟨bs, h2⟩ := Rep.reads I sb r2 q2 hd.2.1
      exact ne_plain h1 h2 hd.1.2 hd.2.2 (Nat.lt_of_le_of_lt (Nat.add_le_add_left (Nat.min_le_left _ _) _) (by omega)) hq
    split at hk
    · rename_i xs ys
      refine ⟨(Option.some.inj hk).symm, ?_⟩
      by_cases hd : (dfree (.tup xs) && dfree (.tup ys)) = true
      · exact dfc hd
      · have hk2 := h0.1
        unfold vok at hk2
        simp only [hd, Bool.false_or] at hk2
        rw [Bool.and_eq_true] at hk2
        obtain ⟨a, ws, rfl, ha, rs⟩ := r1.seqT
        obtain ⟨b, us, rfl, hb, rt⟩ := r2.seqT
        cases q1; cases q2
        have e : (Val.tup xs).toD.depth = PyData.depthAll (Val.toDs xs) + 1 := rfl
        rw [e] at hz
        exact ne_tup I sb r1 r2 (by omega) hd (fun j x y w1 w2 v1 v2 f1 f2 g1 g2 k1 k2 => eq_run I sb (A := A.in1) g1 g2 k1 k2 (vok_sub hk2.2 f1 f2) (by have := depth_at f1; show A.units + 1 + _ < cLine; omega)) E Q hq
    · split at hk
      · exact ⟨(Option.some.inj hk).symm, dfc (by assumption)⟩
      · cases hk
  · cases hk
theorem op_eqv {X : Cx} (hu : X.A.units + 64 < cLine) : OpV X (compareOp .Eq) gEq := by
  intro pins s σ H B w u v z x y r Q I sb r1 r2 q1 q2 hg h
  unfold gEq at hg
  split at hg
  · rename_i h0
    cases hg
    rw [Bool.and_eq_true] at h0
    have hz : x.toD.depth ≤ 50 := of_decide_eq_true h0.2
    exact rc_run I sb r1 r2 q1 q2 h0.1 (by omega) _ _ ⟨.bl (veq x y), H, I, rfl, h _ fun F => .bl _⟩
  · cases hg
theorem op_nev {X : Cx} (hu : X.A.units + 64 < cLine) : OpV X (compareOp .NotEq) gNe := by
  intro pins s σ H B w u v z x y r Q I sb r1 r2 q1 q2 hg h
  have e : r = .bl (!veq x y) := (ne_run (A := X.A) (E := fun _ _ => True) (Q := fun _ _ => True) I sb r1 r2 q1 q2 hg hu True.intro).1
  subst e
  exact (ne_run I sb r1 r2 q1 q2 hg hu _ _ ⟨.bl _, H, I, rfl, h _ fun F => .bl _⟩).2
end
section
variable {W : Wo} {X : Cx} {E : WX}
theorem OpV.to {f : Value → Value → Sem Value} {g : Val → Val → Option Val} (h : OpV X f g) : OpR X f fun w u H Q => ∃ B x y r, Sub B H ∧ Rep X.K B w x ∧ Rep X.K B u y ∧ g x y = some r ∧ ∀ q, (∀ F, Rep X.K F q r) → Q q H :=
  fun pins s σ H w u v z Q I r1 r2 ⟨B, x, y, r, sb, p1, p2, e, q⟩ => h pins s σ H B w u v z x y r Q I sb p1 p2 r1 r2 e q
theorem flat_V {g : Val → Val → Option Val} : Flat2 X.K (fun w u H Q => ∃ B x y r, Sub B H ∧ Rep X.K B w x ∧ Rep X.K B u y ∧ g x y = some r ∧ ∀ q, (∀ F, Rep X.K F q r) → Q q H) g :=
  fun B H w u x y v Q sb r1 r2 e q => ⟨B, x, y, v, sb, r1, r2, e, q⟩
variable {a b : Expr} {fa fb : Ev W}
theorem vc_eq (hu : X.A.units + 64 < cLine) (ha : VB W X E a fa) (hb : VB W X E b fb) : VC W X E .Eq a b (e2 gEq fa fb) := vcmp (op_eqv hu).to flat_V ha hb (nomark _)
theorem vc_ne (hu : X.A.units + 64 < cLine) (ha : VB W X E a fa) (hb : VB W X E b fb) : VC W X E .NotEq a b (e2 gNe fa fb) := vcmp (op_nev hu).to flat_V ha hb (nomark _)
end
end VL

/-! VL7: statements: what comes of them, stores, changes of own things, branches, rows. -/
namespace VL
open PySem PySem.Spec PyProof.Rows L2

/-! ### 1. what comes of a statement -/
inductive Out (S : Type) where
  | nx (ρ : En) (s : S)
  | bk (ρ : En) (s : S)
  | ct (ρ : En) (s : S)
  | rt (t : OT) (s : S)
  | exc (c : Addr) (n : Int) (ρ : En) (s : S)
  | bad
abbrev Cm (W : Wo) := En → W.S → Out W.S
/-- the reckoning of an expression, then the rest -/
def R.go {S α : Type} (ρ : En) (r : R S α) (f : α → S → Out S) : Out S := match r with
  | .ok a s => f a s
  | .exc c n s => .exc c n ρ s
  | .bad => .bad
def Out.then {S : Type} (o : Out S) (f : En → S → Out S) : Out S := match o with
  | .nx ρ s => f ρ s
  | .bk ρ s => .bk ρ s
  | .ct ρ s => .ct ρ s
  | .rt t s => .rt t s
  | .exc c n ρ s => .exc c n ρ s
  | .bad => .bad

/-- behind a statement that may change the slots in T and what they own -/
structure Ns (T : List Nat) (G G' : Gh) (H H' : Hp) : Prop where
  sub : Sub G.F G'.F
  keep : ∀ a o, H a = some o → ¬ G.fp a → (∀ i, i ∈ T → ¬ G.ad i a) → H' a = some o
  there : ∀ a, H' a = none → H a = none
  adN : ∀ i, i ∉ T → G'.ad i = G.ad i
  adT : ∀ i a, i ∈ T → G'.ad i a → (∃ j, j ∈ T ∧ G.ad j a) ∨ H a = none
  fp : ∀ a, G'.fp a → G.fp a ∨ H a = none
  fz : ∀ a o, G'.F a = some o → G.F a = some o ∨ H a = none ∨ G.fp a ∨ (∃ i, i ∈ T ∧ G.ad i a) ∨ ∃ ws, o = .tup ws
def Off {α : Type} (T : List Nat) (l l' : List α) : Prop := l'.length = l.length ∧ ∀ i, i ∉ T → l'[i]? = l[i]?
theorem Off.refl {α : Type} (T : List Nat) (l : List α) : Off T l l := ⟨rfl, fun _ _ => rfl⟩
theorem Off.trans {α : Type} {T : List Nat} {l l1 l2 : List α} (x : Off T l l1) (y : Off T l1 l2) : Off T l l2 := ⟨y.1.trans x.1, fun i h => (y.2 i h).trans (x.2 i h)⟩
theorem Off.mono {α : Type} {T T' : List Nat} {l l' : List α} (x : Off T l l') (h : ∀ i ∈ T, i ∈ T') : Off T' l l' := ⟨x.1, fun i n => x.2 i fun z => n (h i z)⟩
theorem Off.set {α : Type} {T : List Nat} {l : List α} {i : Nat} {a : α} (h : i ∈ T) : Off T l (l.set i a) := ⟨List.length_set, fun j n => by
  rw [List.getElem?_set_ne]
  rintro rfl
  exact n h⟩
theorem Ns.refl (T : List Nat) (G : Gh) (H : Hp) : Ns T G G H H := ⟨Sub.refl _, fun _ _ h _ _ => h, fun _ h => h, fun _ _ => rfl, fun i a h z => .inl ⟨i, h, z⟩, fun _ z => .inl z, fun _ _ z => .inl z⟩
theorem Ns.trans {T : List Nat} {G G1 G2 : Gh} {H H1 H2 : Hp} (x : Ns T G G1 H H1) (y : Ns T G1 G2 H1 H2) : Ns T G G2 H H2 where
  sub := x.sub.trans y.sub
  keep := fun a o e n d => y.keep a o (x.keep a o e n d) (fun z => by
    rcases x.fp a z with q | q
    · exact n q
    · rw [e] at q; cases q) fun i hi z => by
    rcases x.adT i a hi z with ⟨j, hj, q⟩ | q
    · exact d j hj q
    · rw [e] at q; cases q
  there := fun a h => x.there a (y.there a h)
  adN := fun i h => (y.adN i h).trans (x.adN i h)
  adT := fun i a hi z => by
    rcases y.adT i a hi z with ⟨j, hj, q⟩ | q
    · exact x.adT j a hj q
    · exact .inr (x.there a q)
  fp := fun a z => by
    rcases y.fp a z with q | q
    · exact x.fp a q
    · exact .inr (x.there a q)
  fz := fun a o e => by
    rcases y.fz a o e with q | q | q | ⟨i, hi, q⟩ | q
    · exact x.fz a o q
    · exact .inr (.inl (x.there a q))
    · rcases x.fp a q with r | r
      · exact .inr (.inr (.inl r))
      · exact .inr (.inl r)
    · rcases x.adT i a hi q with r | r
      · exact .inr (.inr (.inr (.inl r)))
      · exact .inr (.inl r)
    · exact .inr (.inr (.inr (.inr q)))
theorem Ns.mono {T T' : List Nat} {G G' : Gh} {H H' : Hp} (x : Ns T G G' H H') (h : ∀ i ∈ T, i ∈ T') : Ns T' G G' H H' where
  sub := x.sub
  keep := fun a o e n d => x.keep a o e n fun i hi => d i (h i hi)
  there := x.there
  adN := fun i n => x.adN i fun z => n (h i z)
  adT := fun i a hi z => by
    by_cases q : i ∈ T
    · rcases x.adT i a q z with ⟨j, hj, r⟩ | r
      · exact .inl ⟨j, h j hj, r⟩
      · exact .inr r
    · rw [x.adN i q] at z
      exact .inl ⟨i, hi, z⟩
  fp := x.fp
  fz := fun a o e => by
    rcases x.fz a o e with q | q | q | ⟨i, hi, q⟩ | q
    · exact .inl q
    · exact .inr (.inl q)
    · exact .inr (.inr (.inl q))
    · exact .inr (.inr (.inr (.inl ⟨i, h i hi, q⟩)))
    · exact .inr (.inr (.inr (.inr q)))
theorem Nx.ns {G G' : Gh} {H H' : Hp} (x : Nx G G' H H') (T : List Nat) : Ns T G G' H H' where
  sub := x.sub
  keep := fun a o e n _ => x.keep a o e n
  there := x.there
  adN := fun i _ => by rw [x.ad]
  adT := fun i a hi z => by rw [x.ad] at z; exact .inl ⟨i, hi, z⟩
  fp := x.fp
  fz := fun a o e => by
    rcases x.fz a o e with q | q | q | q
    · exact .inl q
    · exact .inr (.inl q)
    · exact .inr (.inr (.inl q))
    · exact .inr (.inr (.inr (.inr q)))

/-- a returned thing: nobody else's -/
def pO (K : PySem.W.Frag) (G : Gh) (H : Hp) (G' : Gh) (H' : Hp) (w : V) (t : OT) : Prop :=
  ∃ A, RepO K G'.F H' A w t ∧ ∀ a, A a → G'.F a = none ∧ (∃ o, H' a = some o ∧ ∀ ws, o ≠ .tup ws) ∧ ¬ G'.fp a ∧ ((∃ i, G.ad i a) ∨ H a = none)
def PstS (W : Wo) (K : PySem.W.Frag) (E : WX) (T : List Nat) (G : Gh) (ρ : En) (σ : L2.St) (H : Hp) (o : Out W.S) (D : Ends) : Prop := match o with
  | .nx ρ' s' => ∀ G' H' σ', Ns T G G' H H' → Off T ρ ρ' → Off T σ σ' → Rel W K G' ρ' s' σ' H' → D.nx σ' H'
  | .bk ρ' s' => ∀ G' H' σ', Ns T G G' H H' → Off T ρ ρ' → Off T σ σ' → Rel W K G' ρ' s' σ' H' → D.bk σ' H'
  | .ct ρ' s' => ∀ G' H' σ', Ns T G G' H H' → Off T ρ ρ' → Off T σ σ' → Rel W K G' ρ' s' σ' H' → D.ct σ' H'
  | .rt t s' => ∀ G' H' w, Ns T G G' H H' → RelW W G' s' H' → pO K G H G' H' w t → D.rt w H'
  | .exc c n ρ' s' => ∀ G' H' σ' d, Ns T G G' H H' → Off T ρ ρ' → Off T σ σ' → Rel W K G' ρ' s' σ' H' → H' d = some (.xd (atF n)) → E (.ref c) (some d) σ' H'
  | .bad => False
def tS (W : Wo) (K : PySem.W.Frag) (E : WX) (T : List Nat) (f : Cm W) : TS := fun D σ H => ∃ G ρ s, Rel W K G ρ s σ H ∧ PstS W K E T G ρ σ H (f ρ s) D
/-- a statement, a row of statements is f, within the slots T -/
def VS (W : Wo) (X : Cx) (E : WX) (T : List Nat) (st : Stmt) (f : Cm W) : Prop := PS X st (tS W X.K E T f)
def VSs (W : Wo) (X : Cx) (E : WX) (T : List Nat) (st : List Stmt) (f : Cm W) : Prop := PSs X st (tS W X.K E T f)
theorem PS.imp {X : Cx} {st : Stmt} {t t' : TS} (h : PS X st t) (i : ∀ D σ H, t' D σ H → t D σ H) : PS X st t' := ⟨fun pins s σ H D I z => h.run pins s σ H D I (i D σ H z)⟩
theorem PSs.imp {X : Cx} {st : List Stmt} {t t' : TS} (h : PSs X st t) (i : ∀ D σ H, t' D σ H → t D σ H) : PSs X st t' := ⟨fun pins s σ H D I z => h.run pins s σ H D I (i D σ H z)⟩

section
variable {W : Wo} {K : PySem.W.Frag} {E : WX} {T : List Nat} {G G1 : Gh} {ρ ρ1 : En} {s : W.S} {σ σ1 : L2.St} {H H1 : Hp} {D D' : Ends} {o : Out W.S}
theorem pO.from {G' : Gh} {H' : Hp} {w : V} {t : OT} (x : Ns T G G1 H H1) (h : pO K G1 H1 G' H' w t) : pO K G H G' H' w t := by
  obtain ⟨A, r, z⟩ := h
  refine ⟨A, r, fun a q => ?_⟩
  obtain ⟨h1, h2, h3, h4⟩ := z a q
  refine ⟨h1, h2, h3, ?_⟩
  rcases h4 with ⟨i, h4⟩ | h4
  · by_cases hi : i ∈ T
    · rcases x.adT i a hi h4 with ⟨j, _, r⟩ | r
      · exact .inl ⟨j, r⟩
      · exact .inr r
    · rw [x.adN i hi] at h4
      exact .inl ⟨i, h4⟩
  · exact .inr (x.there a h4)
theorem PstS.from (x : Ns T G G1 H H1) (hρ : Off T ρ ρ1) (hσ : Off T σ σ1) (h : PstS W K E T G ρ σ H o D) : PstS W K E T G1 ρ1 σ1 H1 o D := by
  cases o with
  | nx ρ' s' => exact fun G' H' σ' y a b r => h G' H' σ' (x.trans y) (hρ.trans a) (hσ.trans b) r
  | bk ρ' s' => exact fun G' H' σ' y a b r => h G' H' σ' (x.trans y) (hρ.trans a) (hσ.trans b) r
  | ct ρ' s' => exact fun G' H' σ' y a b r => h G' H' σ' (x.trans y) (hρ.trans a) (hσ.trans b) r
  | rt t s' => exact fun G' H' w y r p => h G' H' w (x.trans y) r (p.from x)
  | exc c n ρ' s' => exact fun G' H' σ' d y a b r e => h G' H' σ' d (x.trans y) (hρ.trans a) (hσ.trans b) r e
  | bad => exact h
theorem PstS.mono {T' : List Nat} (ht : ∀ i ∈ T, i ∈ T') (h : PstS W K E T' G ρ σ H o D) : PstS W K E T G ρ σ H o D := by
  cases o with
  | nx ρ' s' => exact fun G' H' σ' y a b r => h G' H' σ' (y.mono ht) (a.mono ht) (b.mono ht) r
  | bk ρ' s' => exact fun G' H' σ' y a b r => h G' H' σ' (y.mono ht) (a.mono ht) (b.mono ht) r
  | ct ρ' s' => exact fun G' H' σ' y a b r => h G' H' σ' (y.mono ht) (a.mono ht) (b.mono ht) r
  | rt t s' => exact fun G' H' w y r p => h G' H' w (y.mono ht) r p
  | exc c n ρ' s' => exact fun G' H' σ' d y a b r e => h G' H' σ' d (y.mono ht) (a.mono ht) (b.mono ht) r e
  | bad => exact h
/-- other ends -/
theorem PstS.ends (h : PstS W K E T G ρ σ H o D) (h1 : ∀ σ H, D.nx σ H → D'.nx σ H) (h2 : ∀ σ H, D.bk σ H → D'.bk σ H) (h3 : ∀ σ H, D.ct σ H → D'.ct σ H) (h4 : ∀ w H, D.rt w H → D'.rt w H) : PstS W K E T G ρ σ H o D' := by
  cases o with
  | nx ρ' s' => exact fun G' H' σ' y a b r => h1 _ _ (h G' H' σ' y a b r)
  | bk ρ' s' => exact fun G' H' σ' y a b r => h2 _ _ (h G' H' σ' y a b r)
  | ct ρ' s' => exact fun G' H' σ' y a b r => h3 _ _ (h G' H' σ' y a b r)
  | rt t s' => exact fun G' H' w y r p => h4 _ _ (h G' H' w y r p)
  | exc c n ρ' s' => exact h
  | bad => exact h
/-- what is known ends at once -/
theorem PstS.nx' (r : Rel W K G ρ s σ H) (h : PstS W K E T G ρ σ H (.nx ρ s) D) : D.nx σ H := h G H σ (Ns.refl _ _ _) (Off.refl _ _) (Off.refl _ _) r
theorem PstS.then {f : En → W.S → Out W.S} (h : PstS W K E T G ρ σ H (o.then f) D) : PstS W K E T G ρ σ H o { D with nx := fun σ' H' => tS W K E T f D σ' H' } := by
  cases o with
  | nx ρ' s' => exact fun G' H' σ' x a b r => ⟨G', ρ', s', r, PstS.from x a b h⟩
  | bk ρ' s' => exact h
  | ct ρ' s' => exact h
  | rt t s' => exact h
  | exc c n ρ' s' => exact h
  | bad => exact h
/-- an expression first -/
theorem PstS.go {α γ : Type} {P : RP γ α} {r : R W.S α} {f : α → W.S → Out W.S} (h : PstS W K E T G ρ σ H (r.go ρ f) D) :
    Pst W K E P G ρ σ H r fun w H1 => ∃ G1 s1 v, Nx G G1 H H1 ∧ Rel W K G1 ρ s1 σ H1 ∧ P G1 H1 w v ∧ PstS W K E T G1 ρ σ H1 (f v s1) D := by
  cases r with
  | ok v s' => exact fun G' H' w x rel rp => ⟨G', s', v, x, rel, rp, PstS.from (x.ns T) (Off.refl _ _) (Off.refl _ _) h⟩
  | exc c n s' => exact fun G' H' d x rel e => h G' H' σ d (x.ns T) (Off.refl _ _) (Off.refl _ _) rel e
  | bad => exact h
/-- .. the wanted end seen from the beginning -/
theorem PstS.goAt {α γ : Type} {P : RP γ α} {r : R W.S α} {f : α → W.S → Out W.S} (h : PstS W K E T G ρ σ H (r.go ρ f) D) :
    Pst W K E P G ρ σ H r fun w H1 => ∃ G1 s1 v, Nx G G1 H H1 ∧ Rel W K G1 ρ s1 σ H1 ∧ P G1 H1 w v ∧ PstS W K E T G ρ σ H (f v s1) D := by
  cases r with
  | ok v s' => exact fun G' H' w x rel rp => ⟨G', s', v, x, rel, rp, h⟩
  | exc c n s' => exact fun G' H' d x rel e => h G' H' σ d (x.ns T) (Off.refl _ _) (Off.refl _ _) rel e
  | bad => exact h
theorem tS.go {α γ : Type} {P : Hp → RP γ α} {g : Sm W α} {f : α → Cm W} (h : tS W K E T (fun ρ s => (g ρ s).go ρ fun v s1 => f v ρ s1) D σ H) :
    tG W K E P g σ H fun w H1 => ∃ G ρ s v, Rel W K G ρ s σ H1 ∧ P H G H1 w v ∧ PstS W K E T G ρ σ H1 (f v ρ s) D := by
  obtain ⟨G, ρ, s, rel, h⟩ := h
  exact tG.mk rel (Pst.mono (PstS.go (P := P H) h) fun w H1 ⟨G1, s1, v, x, r1, p, h1⟩ => ⟨G1, ρ, s1, v, r1, p, h1⟩)
end

/-! ### 2. stores -/
def Gh.put (G : Gh) (i : Nat) (A : Addr → Prop) : Gh := { G with ad := fun j => if j = i then A else G.ad j }
theorem Gh.put_same {G : Gh} {i : Nat} {A : Addr → Prop} : (G.put i A).ad i = A := by show (if i = i then A else _) = A; rw [if_pos rfl]
theorem Gh.put_ne {G : Gh} {i j : Nat} {A : Addr → Prop} (h : j ≠ i) : (G.put i A).ad j = G.ad j := by show (if j = i then A else _) = _; rw [if_neg h]
section
variable {W : Wo} {K : PySem.W.Frag} {E : WX} {G : Gh} {ρ : En} {s : W.S} {σ : L2.St} {H : Hp}
theorem Ns.put {T : List Nat} {G0 : Gh} {H0 : Hp} {i : Nat} {A : Addr → Prop} (x : Ns T G0 G H0 H) (hi : i ∈ T) (hA : ∀ a, A a → (∃ j, j ∈ T ∧ G0.ad j a) ∨ H0 a = none) : Ns T G0 (G.put i A) H0 H where
  sub := x.sub
  keep := x.keep
  there := x.there
  adN := fun j n => (Gh.put_ne (fun e => n (by rw [e]; exact hi))).trans (x.adN j n)
  adT := fun j a hj z => by
    by_cases e : j = i
    · subst e; rw [Gh.put_same] at z; exact hA a z
    · rw [Gh.put_ne e] at z; exact x.adT j a hj z
  fp := x.fp
  fz := x.fz
/-- a name is stored -/
theorem Rel.put {i : Nat} {A : Addr → Prop} {w : V} {t : OT} (r : Rel W K G ρ s σ H) (ro : RepO K G.F H A w t)
    (hA : ∀ a, A a → G.F a = none ∧ (∃ o, H a = some o ∧ ∀ ws, o ≠ .tup ws) ∧ ¬ G.fp a ∧ ∀ j, j ≠ i → ¬ G.ad j a) : Rel W K (G.put i A) (ρ.set i (some t)) s (σ.set i (some w)) H where
  sub := r.sub
  tups := r.tups
  lk := r.lk
  wrl := r.wrl
  len := by rw [List.length_set, List.length_set]; exact r.len
  slot := fun j t' e => by
    by_cases q : j = i
    · subst q
      by_cases hl : j < ρ.length
      · rw [List.getElem?_set_self hl] at e
        cases e
        refine ⟨w, List.getElem?_set_self (by rw [← r.len]; exact hl), ?_⟩
        rw [Gh.put_same]; exact ro
      · rw [List.getElem?_eq_none (by rw [List.length_set]; omega)] at e
        cases e
    · rw [List.getElem?_set_ne (Ne.symm q)] at e
      obtain ⟨w', h1, h2⟩ := r.slot j t' e
      refine ⟨w', by rw [List.getElem?_set_ne (Ne.symm q)]; exact h1, ?_⟩
      rw [Gh.put_ne q]; exact h2
  own := fun j a z => by
    by_cases q : j = i
    · subst q; rw [Gh.put_same] at z; exact ⟨(hA a z).1, (hA a z).2.1, (hA a z).2.2.1⟩
    · rw [Gh.put_ne q] at z; exact r.own j a z
  dis := fun j k a h z y => by
    by_cases q : j = i
    · subst q
      rw [Gh.put_same] at z
      rw [Gh.put_ne (Ne.symm h)] at y
      exact (hA a z).2.2.2 k (Ne.symm h) y
    · by_cases q2 : k = i
      · subst q2
        rw [Gh.put_same] at y
        rw [Gh.put_ne q] at z
        exact (hA a y).2.2.2 j q z
      · rw [Gh.put_ne q] at z
        rw [Gh.put_ne q2] at y
        exact r.dis j k a h z y
variable {X : Cx} {T : List Nat} {D : Ends}
theorem put_done {i : Nat} {A : Addr → Prop} {w : V} {t : OT} (r : Rel W K G ρ s σ H) (hi : i ∈ T) (ro : RepO K G.F H A w t)
    (hA : ∀ a, A a → G.F a = none ∧ (∃ o, H a = some o ∧ ∀ ws, o ≠ .tup ws) ∧ ¬ G.fp a ∧ ∀ j, j ≠ i → ¬ G.ad j a) (hB : ∀ a, A a → (∃ j, j ∈ T ∧ G.ad j a) ∨ H a = none)
    (h : PstS W K E T G ρ σ H (.nx (ρ.set i (some t)) s) D) : D.nx (σ.set i (some w)) H :=
  h (G.put i A) H _ (Ns.put (Ns.refl _ _ _) hi hB) (Off.set hi) (Off.set hi) (r.put ro hA)
/-- a value into a name -/
theorem put_sh {i : Nat} {w : V} {v : Val} (r : Rel W K G ρ s σ H) (hi : i ∈ T) (rp : Rep K G.F w v) (h : PstS W K E T G ρ σ H (.nx (ρ.set i (some (.sh v))) s) D) : D.nx (σ.set i (some w)) H :=
  put_done r hi (.sh (A := fun _ => False) rp) (fun _ z => z.elim) (fun _ z => z.elim) h
end

/-! ### 3. small statements -/
section
variable {W : Wo} {X : Cx} {E : WX} {T : List Nat} {st : Stmt} {rest : List Stmt} {e : Expr} {pos : Pos} {f : Ev W} {c d : Cm W}
def cNx : Cm W := fun ρ s => .nx ρ s
def cBk : Cm W := fun ρ s => .bk ρ s
def cCt : Cm W := fun ρ s => .ct ρ s
def cSeq (c d : Cm W) : Cm W := fun ρ s => (c ρ s).then d
theorem vss_nil : VSs W X E T [] cNx := PSs.imp pss_nil fun D σ H ⟨G, ρ, s, r, h⟩ => h.nx' r
theorem vss_cons (h1 : VS W X E T st c) (h2 : VSs W X E T rest d) : VSs W X E T (st :: rest) (cSeq c d) := PSs.imp (pss_cons h1 h2) fun D σ H ⟨G, ρ, s, r, h⟩ => ⟨G, ρ, s, r, h.then⟩
theorem vss_one (h1 : VS W X E T st c) : VSs W X E T [st] c := pss_one h1
theorem vs_pass : VS W X E T (.Pass pos) cNx := PS.imp ps_pass fun D σ H ⟨G, ρ, s, r, h⟩ => h.nx' r
theorem vs_doc {x : Str} {j : Nat} {p2 : Pos} : VS W X E T (.Expr (.Constant (.str x) j pos) p2) cNx := PS.imp ps_doc fun D σ H ⟨G, ρ, s, r, h⟩ => h.nx' r
theorem vs_break : VS W X E T (.Break pos) cBk := PS.imp ps_break fun D σ H ⟨G, ρ, s, r, h⟩ => h G H σ (Ns.refl _ _ _) (Off.refl _ _) (Off.refl _ _) r
theorem vs_continue : VS W X E T (.Continue pos) cCt := PS.imp ps_continue fun D σ H ⟨G, ρ, s, r, h⟩ => h G H σ (Ns.refl _ _ _) (Off.refl _ _) (Off.refl _ _) r
def cSet (i : Nat) (f : Ev W) : Cm W := fun ρ s => (f ρ s).go ρ fun v s1 => .nx (ρ.set i (some (.sh v))) s1
def cSetF (i : Nat) (f : Sm W OT) : Cm W := fun ρ s => (f ρ s).go ρ fun t s1 => .nx (ρ.set i (some t)) s1
variable {i : Nat} {x : Str} {p2 : Pos}
theorem vs_set (hi : i ∈ T) (hN : X.N.Nodup) (he : VE W X E e f) (hx : X.N[i]? = some x := by rfl) (hl : Loc X.env.scope x := by first | exact Or.inl rfl | exact Or.inr rfl) (hs : swapsWith e (some (.Name x p2)) pos.line X.env = pure false := by rfl)
    (hf : X.fn x = true ∨ X.env.scope.names.lookup x = some .local := by first | exact .inl rfl | exact .inr rfl | assumption) : VS W X E T (.Assign [.Name x p2] e pos) (cSet i f) :=
  PS.imp (ps_set hN hx hl he hs hf) fun D σ H h => (tS.go (f := fun v ρ s1 => .nx (ρ.set i (some (.sh v))) s1) h).mono fun w H1 ⟨G, ρ, s, v, r, p, h⟩ => put_sh r hi p h
theorem vs_setF {f : Sm W OT} (hi : i ∈ T) (hN : X.N.Nodup) (he : VF W X E e f) (hx : X.N[i]? = some x := by rfl) (hl : Loc X.env.scope x := by first | exact Or.inl rfl | exact Or.inr rfl) (hs : swapsWith e (some (.Name x p2)) pos.line X.env = pure false := by rfl)
    (hf : X.fn x = true ∨ X.env.scope.names.lookup x = some .local := by first | exact .inl rfl | exact .inr rfl | assumption) : VS W X E T (.Assign [.Name x p2] e pos) (cSetF i f) :=
  PS.imp (ps_set hN hx hl he hs hf) fun D σ H h => by
    obtain ⟨G, ρ, s, rel, h⟩ := h
    refine tG.mk (f := f) (P := pF X.K) rel (Pst.mono (PstS.goAt (P := pF X.K H) h) ?_)
    rintro w H1 ⟨G1, s1, t, x1, r1, ⟨A, ro, hA⟩, h1⟩
    refine h1 (G1.put i A) H1 _ (Ns.put (x1.ns T) hi fun a z => .inr (hA a z).1) (Off.set hi) (Off.set hi) (r1.put ro fun a z => ⟨(hA a z).2.1, (hA a z).2.2.1, (hA a z).2.2.2.1, fun j _ => (hA a z).2.2.2.2 j⟩)
end

/-! ### 4. own things are changed -/
def OT.at : List Nat → OT → Option OT
  | [], t => some t
  | c :: π, .oT ts => match ts[c]? with
    | some t => OT.at π t
    | none => none
  | _ :: _, _ => none
def OT.up : List Nat → OT → OT → OT
  | [], _, u => u
  | c :: π, .oT ts, u => match ts[c]? with
    | some t => .oT (ts.set c (OT.up π t u))
    | none => .oT ts
  | _ :: _, t, _ => t
def PathV (H : Hp) : List Nat → V → V → Prop
  | [], w, w1 => w1 = w
  | c :: π, w, w1 => ∃ a ws z, w = .ref a ∧ H a = some (.tup ws) ∧ ws[c]? = some z ∧ PathV H π z w1
theorem PathV.mono {F H : Hp} (hs : Sub F H) : ∀ {π : List Nat} {w w1 : V}, PathV F π w w1 → PathV H π w w1
  | [], _, _, h => h
  | _ :: _, _, _, ⟨a, ws, z, e, h, e1, p⟩ => ⟨a, ws, z, e, hs _ _ h, e1, PathV.mono hs p⟩
theorem PathV.inj {H : Hp} : ∀ {π : List Nat} {w w1 w2 : V}, PathV H π w w1 → PathV H π w w2 → w1 = w2
  | [], _, _, _, h, h' => h.trans h'.symm
  | c :: π, w, w1, w2, ⟨a, ws, z, e, h, e1, p⟩, ⟨a', ws', z', e', h', e1', p'⟩ => by
    rw [e] at e'; cases e'
    rw [h] at h'; cases h'
    rw [e1] at e1'; cases e1'
    exact PathV.inj p p'
theorem PathV.snoc {H : Hp} {c : Nat} : ∀ {π : List Nat} {w w1 : V} {a : Addr} {ws : List V} {z : V}, PathV H π w w1 → w1 = .ref a → H a = some (.tup ws) → ws[c]? = some z → PathV H (π ++ [c]) w z
  | [], w, w1, a, ws, z, h, e, h1, e1 => ⟨a, ws, z, by rw [← e]; exact h.symm, h1, e1, rfl⟩
  | d :: π, w, w1, a, ws, z, ⟨a', ws', z', e', h', e1', p⟩, e, h1, e1 => ⟨a', ws', z', e', h', e1', PathV.snoc p e h1 e1⟩
section
variable {K : PySem.W.Frag} {F H : Hp}
theorem RepOs.part : ∀ {ts : List OT} {A : Addr → Prop} {ws : List V} {c : Nat} {t : OT}, RepOs K F H A ws ts → ts[c]? = some t → ∃ A' w, ws[c]? = some w ∧ RepO K F H A' w t ∧ (∀ a, A' a → A a) ∧
    ∀ H' t', (∀ a, A a → ¬ A' a → H' a = H a) → RepO K F H' A' w t' → RepOs K F H' A ws (ts.set c t')
  | [], _, _, _, _, .nil, e => by simp at e
  | t0 :: ts, A, _, 0, t, .cons (A1 := A1) (A2 := A2) r r2 d h1 h2, e => by
    simp at e; subst e
    refine ⟨A1, _, rfl, r, h1, fun H' t' k r' => ?_⟩
    exact .cons r' (r2.mono (Sub.refl _) (fun _ z => z) fun a z => k a (h2 a z) fun y => d a y z) d h1 h2
  | t0 :: ts, A, _, c + 1, t, .cons (A1 := A1) (A2 := A2) r r2 d h1 h2, e => by
    obtain ⟨A', w, e1, r', hs, k⟩ := RepOs.part (c := c) r2 (by simpa using e)
    refine ⟨A', w, by simpa using e1, r', fun a z => h2 a (hs a z), fun H' t' kk rr => ?_⟩
    refine .cons (r.mono (Sub.refl _) (fun _ z => z) fun a z => kk a (h1 a z) fun y => d a z (hs a y)) (k H' t' (fun a z y => kk a (h2 a z) y) rr) d h1 h2
theorem RepO.path : ∀ {π : List Nat} {A : Addr → Prop} {w : V} {t t1 : OT}, RepO K F H A w t → OT.at π t = some t1 → ∃ A1 w1, RepO K F H A1 w1 t1 ∧ (∀ a, A1 a → A a) ∧ PathV F π w w1 ∧
    ∀ H' t', (∀ a, A a → ¬ A1 a → H' a = H a) → RepO K F H' A1 w1 t' → RepO K F H' A w (OT.up π t t')
  | [], A, w, t, t1, r, e => by
    cases e
    exact ⟨A, w, r, fun _ z => z, rfl, fun H' t' _ r' => r'⟩
  | c :: π, A, w, t, t1, r, e => by
    cases r with
    | oT ha rs =>
      rename_i a ws ts
      have e : (match ts[c]? with | some t => OT.at π t | none => none) = some t1 := e
      cases q : ts[c]? with
      | none => rw [q] at e; cases e
      | some t2 =>
        rw [q] at e
        obtain ⟨A', w', e1, r', hs, k⟩ := rs.part q
        obtain ⟨A1, w1, r1, h1, p1, k1⟩ := RepO.path r' e
        refine ⟨A1, w1, r1, fun a z => hs a (h1 a z), ⟨a, ws, w', rfl, ha, e1, p1⟩, fun H' t' kk rr => ?_⟩
        have eu : OT.up (c :: π) (.oT ts) t' = .oT (ts.set c (OT.up π t2 t')) := by
          show (match ts[c]? with | some t => OT.oT (ts.set c (OT.up π t t')) | none => .oT ts) = _
          rw [q]
        rw [eu]
        exact .oT ha (k H' _ (fun a z y => kk a z fun y' => y (h1 a y')) (k1 H' t' (fun a z y => kk a (hs a z) y) rr))
    | _ => cases e
end
section
variable {W : Wo} {K : PySem.W.Frag} {E : WX} {G : Gh} {ρ : En} {s : W.S} {σ : L2.St} {H : Hp} {i : Nat} {π : List Nat} {t t1 : OT}
/-- the own thing at a place -/
structure At (W : Wo) (K : PySem.W.Frag) (G : Gh) (ρ : En) (s : W.S) (σ : L2.St) (H : Hp) (i : Nat) (π : List Nat) (t t1 : OT) (w1 : V) (A1 : Addr → Prop) : Prop where
  path : ∃ w, σ[i]? = some (some w) ∧ PathV G.F π w w1
  rep : RepO K G.F H A1 w1 t1
  own : ∀ a, A1 a → G.ad i a
  set : ∀ H' t', (∀ a, ¬ A1 a → H' a = H a) → (∀ a, A1 a → ∃ o, H' a = some o ∧ ∀ ws, o ≠ .tup ws) → RepO K G.F H' A1 w1 t' → Rel W K G (ρ.set i (some (OT.up π t t'))) s σ H'
theorem Rel.at (r : Rel W K G ρ s σ H) (e : ρ[i]? = some (some t)) (e1 : OT.at π t = some t1) : ∃ w1 A1, At W K G ρ s σ H i π t t1 w1 A1 := by
  obtain ⟨w, h1, h2⟩ := r.slot i t e
  obtain ⟨A1, w1, r1, hA, p, k⟩ := h2.path e1
  have hil : i < ρ.length := (List.getElem?_eq_some_iff.mp e).1
  refine ⟨w1, A1, ⟨w, h1, p⟩, r1, hA, fun H' t' off on r' => ?_⟩
  refine ⟨⟨fun a o z => ?_, fun a ws z => ?_, r.lk, ?_⟩, by rw [List.length_set]; exact r.len, fun j t'' z => ?_, fun j a z => ?_, r.dis⟩
  · rw [off a fun y => ?_]
    · exact r.sub a o z
    · rw [(r.own i a (hA a y)).1] at z; cases z
  · by_cases y : A1 a
    · obtain ⟨o, h3, h4⟩ := on a y
      rw [z] at h3; cases h3
      exact absurd rfl (h4 ws)
    · rw [off a y] at z
      exact r.tups a ws z
  · refine W.mono r.wrl (Sub.refl _) fun a z => ⟨off a fun y => (r.own i a (hA a y)).2.2 z, (W.own r.wrl z).1⟩
  · by_cases q : j = i
    · subst q
      rw [List.getElem?_set_self hil] at z
      cases z
      exact ⟨w, h1, k H' t' (fun a _ y => off a y) r'⟩
    · rw [List.getElem?_set_ne (Ne.symm q)] at z
      obtain ⟨w', h3, h4⟩ := r.slot j t'' z
      exact ⟨w', h3, h4.mono (Sub.refl _) (fun _ y => y) fun a y => off a fun x => r.dis j i a q y (hA a x)⟩
  · obtain ⟨h3, ⟨o, h4, h5⟩, h6⟩ := r.own j a z
    refine ⟨h3, ?_, h6⟩
    by_cases y : A1 a
    · exact on a y
    · exact ⟨o, by rw [off a y]; exact h4, h5⟩
theorem At.ns {T : List Nat} {w1 : V} {A1 : Addr → Prop} {H' : Hp} {G0 : Gh} {H0 : Hp} (q : At W K G ρ s σ H i π t t1 w1 A1) (x : Nx G0 G H0 H) (hi : i ∈ T) (off : ∀ a, ¬ A1 a → H' a = H a) (on : ∀ a, A1 a → ∃ o, H' a = some o ∧ ∀ ws, o ≠ .tup ws) : Ns T G0 G H0 H' where
  sub := x.sub
  keep := fun a o e n d => by
    rw [off a fun y => ?_]
    · exact x.keep a o e n
    · refine d i hi ?_
      rw [← x.ad]; exact q.own a y
  there := fun a h => by
    by_cases y : A1 a
    · obtain ⟨o, e, _⟩ := on a y
      rw [e] at h; cases h
    · rw [off a y] at h; exact x.there a h
  adN := fun j _ => by rw [x.ad]
  adT := fun j a hj z => by rw [x.ad] at z; exact .inl ⟨j, hj, z⟩
  fp := x.fp
  fz := fun a o e => by
    rcases x.fz a o e with z | z | z | z
    · exact .inl z
    · exact .inr (.inl z)
    · exact .inr (.inr (.inl z))
    · exact .inr (.inr (.inr (.inr z)))
/-- the object there is at one address -/
theorem At.one {w1 : V} {A1 : Addr → Prop} {a : Addr} {o : HO} {t' : OT} (q : At W K G ρ s σ H i π t t1 w1 A1) (r : Rel W K G ρ s σ H) (ha : A1 a) (ht : ∀ ws, o ≠ .tup ws) (r' : RepO K G.F (upd H a o) A1 w1 t') :
    Rel W K G (ρ.set i (some (OT.up π t t'))) s σ (upd H a o) ∧ ∀ {T : List Nat} {G0 : Gh} {H0 : Hp}, Nx G0 G H0 H → i ∈ T → Ns T G0 G H0 (upd H a o) := by
  have off : ∀ b, ¬ A1 b → upd H a o b = H b := fun b n => upd_ne fun e => n (by rw [e]; exact ha)
  have on : ∀ b, A1 b → ∃ o', upd H a o b = some o' ∧ ∀ ws, o' ≠ .tup ws := fun b y => by
    by_cases e : b = a
    · rw [e, upd_same]; exact ⟨o, rfl, ht⟩
    · rw [upd_ne e]; exact (r.own i b (q.own b y)).2.1
  exact ⟨q.set _ t' off on r', fun x hi => q.ns x hi off on⟩
end

/-- where an own thing is found -/
def tOwn (i : Nat) (π : List Nat) : TE := fun σ H Q => ∃ w w1, σ[i]? = some (some w) ∧ PathV H π w w1 ∧ Q w1 H
def VO (X : Cx) (e : Expr) (i : Nat) (π : List Nat) : Prop := PE X e (tOwn i π)
section
variable {X : Cx}
theorem vo_var (i : Nat) {x : Str} {pos : Pos} (hN : X.N[i]? = some x := by rfl) (hv : Vis X.env.scope x := by first | exact Or.inl rfl | exact Or.inr (Or.inl rfl) | exact Or.inr (Or.inr rfl)) (hd : (x == ("__debug__" : Str)) = false := by decide)
    (hcd : (x == ("__classdict__" : Str)) = false := by decide) : VO X (.Name x pos) i [] := PE.imp (pe_var (i := i) hN hv hd hcd) fun σ H Q ⟨w, w1, h, p, q⟩ => by
  have p : w1 = w := p
  subst p
  exact ⟨_, h, q⟩
theorem PathV.last {H : Hp} {c : Nat} : ∀ {π : List Nat} {w z : V}, PathV H (π ++ [c]) w z → ∃ w1 a ws, PathV H π w w1 ∧ w1 = .ref a ∧ H a = some (.tup ws) ∧ ws[c]? = some z
  | [], w, z, ⟨a, ws, z', e, h, e1, p⟩ => by
    have p : z = z' := p
    subst p
    exact ⟨w, a, ws, rfl, e, h, e1⟩
  | d :: π, w, z, ⟨a, ws, z', e, h, e1, p⟩ => by
    obtain ⟨w1, a', ws', p', e', h', e1'⟩ := PathV.last p
    exact ⟨w1, a', ws', ⟨a, ws, z', e, h, e1, p'⟩, e', h', e1'⟩
theorem vo_ix {e : Expr} {i : Nat} {π : List Nat} {c : Nat} {j : Nat} {p1 pos : Pos} (h : VO X e i π) : VO X (.Subscript e (.Constant (.int (c : Int)) j p1) pos) i (π ++ [c]) := PE.imp (pe_ix ix_tup h pe_int (fun _ _ => rfl)) fun σ H Q ⟨w, w1, h, p, q⟩ => by
  obtain ⟨w2, a, ws, p2, e2, h2, e1⟩ := p.last
  exact ⟨w, w2, h, p2, a, ws, (c : Int), w1, e2, rfl, SqT.of h2, atI_nat e1, q⟩
end
end VL

/-! VL8: changes of own lists and dicts, targets, branches, walks, rows of turns, ends. -/
namespace VL
open PySem PySem.Spec PyProof.Rows L2

/-! ### 1. own lists and dicts -/
def ownAt (ρ : En) (i : Nat) (π : List Nat) : Option (OT × OT) := match ρ[i]? with
  | some (some t) => (OT.at π t).map fun t1 => (t, t1)
  | _ => none
theorem ownAt_of {ρ : En} {i : Nat} {π : List Nat} {t t1 : OT} (h : ownAt ρ i π = some (t, t1)) : ρ[i]? = some (some t) ∧ OT.at π t = some t1 := by
  unfold ownAt at h
  split at h
  · rename_i t' e
    cases q : OT.at π t' with
    | none => rw [q] at h; cases h
    | some u => rw [q] at h; cases h; exact ⟨e, q⟩
  · cases h
section
variable {W : Wo} {X : Cx} {E : WX} {T : List Nat} {G G1 : Gh} {ρ : En} {s s1 : W.S} {σ : L2.St} {H H1 : Hp} {i : Nat} {π : List Nat} {t t1 : OT} {w1 w2 : V} {A1 A2 : Addr → Prop} {D : Ends}
theorem At.same (q : At W X.K G ρ s σ H i π t t1 w1 A1) (q2 : At W X.K G1 ρ s1 σ H1 i π t t1 w2 A2) (hs : Sub G.F G1.F) : w2 = w1 := by
  obtain ⟨w, h, p⟩ := q.path
  obtain ⟨w', h', p'⟩ := q2.path
  rw [h] at h'; cases h'
  exact PathV.inj p' (p.mono hs)
/-- the change of the object at a -/
theorem At.write {a : Addr} {o : HO} {t' : OT} (q : At W X.K G1 ρ s1 σ H1 i π t t1 w1 A1) (r : Rel W X.K G1 ρ s1 σ H1) (x : Nx G G1 H H1) (hi : i ∈ T) (ha : A1 a) (ht : ∀ ws, o ≠ .tup ws) (r' : RepO X.K G1.F (upd H1 a o) A1 w1 t')
    (h : PstS W X.K E T G ρ σ H (.nx (ρ.set i (some (OT.up π t t'))) s1) D) : D.nx σ (upd H1 a o) := by
  obtain ⟨h1, h2⟩ := q.one r ha ht r'
  exact h G1 _ σ (h2 x hi) (Off.set hi) (Off.refl _ _) h1
theorem at_lst (q : At W X.K G ρ s σ H i π t (.oL vs) w1 A1) : ∃ a ws, w1 = .ref a ∧ H a = some (.lst ws) ∧ A1 a ∧ Reps X.K G.F ws vs := by
  cases q.rep with
  | oL h1 h2 h3 => exact ⟨_, _, rfl, h1, h2, h3⟩
def cApp (i : Nat) (π : List Nat) (f : Ev W) : Cm W := fun ρ s => match ownAt ρ i π with
  | some (t, .oL vs) => (f ρ s).go ρ fun v s1 => if vs.length < sizeLine then .nx (ρ.set i (some (OT.up π t (.oL (vs ++ [v]))))) s1 else .bad
  | _ => .bad
def cExt (i : Nat) (π : List Nat) (f : Ev W) : Cm W := fun ρ s => match ownAt ρ i π with
  | some (t, .oL vs) => (f ρ s).go ρ fun v s1 => match v with
    | .lst us => if vs.length + us.length ≤ sizeLine then .nx (ρ.set i (some (OT.up π t (.oL (vs ++ us))))) s1 else .bad
    | _ => .bad
  | _ => .bad
variable {o a e : Expr} {f g : Ev W} {apos cpos pos pos' : Pos}
theorem vs_app (hi : i ∈ T) (ho : VO X o i π) (ha : VE W X E a f) (hsw : swapsWith (.Call (.Attribute o "append" apos) [a] [] cpos) none pos.line X.env = pure false := by rfl)
    (hbase : attributeBase o "append" X.env (eval o X.env) = eval o X.env := by rfl)
    (hfew : ((backTo cpos (starEach [a] X.env)).all (fun x => !x.1) && (backToKw cpos (keywordEach [] X.env)).all (fun x => x.1.isSome)
      && decide (([a] : List Expr).length + ([] : List Keyword).length + (if ([] : List Keyword).isEmpty then 0 else 1) < 30)) = true := by rfl)
    (hline : (apos.endLine == cpos.line) = true := by rfl) (hs : starEach [a] X.env = (false, eval a X.env) :: starEach [] X.env := by rfl) :
    VS W X E T (.Expr (.Call (.Attribute o "append" apos) [a] [] cpos) pos) (cApp i π f) :=
  PS.imp (ps_expr (pe_bm PySem.F.plainAttrs_list PySem.F.slot_list_append PySem.F.type_list_append mt_append ho (pa_cons ha pa_nil hs) hbase hfew hline hs rfl) hsw) fun D σ H ⟨G, ρ, s, r, h⟩ => by
    unfold cApp at h
    split at h
    · rename_i t vs e0
      obtain ⟨e1, e2⟩ := ownAt_of e0
      obtain ⟨w1, A1, q⟩ := r.at e1 e2
      obtain ⟨w, hw, pw⟩ := q.path
      obtain ⟨b, ws, rfl, hb, hA, rs⟩ := at_lst q
      refine ⟨w, _, hw, pw.mono r.sub, .inl ⟨rfl, _, SqL.of hb⟩, ?_⟩
      refine tG.mk r (Pst.mono (PstS.goAt (P := pV X.K H) h) ?_)
      rintro u H1 ⟨G1, s1, v, x, r1, p, h1⟩
      split at h1
      · rename_i hz
        obtain ⟨w2, A2, q2⟩ := r1.at e1 e2
        obtain rfl := q.same q2 x.sub
        obtain ⟨b', ws', e3, hb', hA', rs'⟩ := at_lst q2
        cases e3
        refine ⟨b, ws', u, rfl, rfl, hb', by rw [rs'.length]; exact hz, ?_⟩
        exact q2.write r1 x hi hA' (nd_lst _).2 (.oL upd_same hA' (rs'.append (.cons p .nil))) h1
      · exact h1.elim
    · exact h.elim
theorem vs_ext (hi : i ∈ T) (ho : VO X o i π) (ha : VE W X E a f) (hsw : swapsWith (.Call (.Attribute o "extend" apos) [a] [] cpos) none pos.line X.env = pure false := by rfl)
    (hbase : attributeBase o "extend" X.env (eval o X.env) = eval o X.env := by rfl)
    (hfew : ((backTo cpos (starEach [a] X.env)).all (fun x => !x.1) && (backToKw cpos (keywordEach [] X.env)).all (fun x => x.1.isSome)
      && decide (([a] : List Expr).length + ([] : List Keyword).length + (if ([] : List Keyword).isEmpty then 0 else 1) < 30)) = true := by rfl)
    (hline : (apos.endLine == cpos.line) = true := by rfl) (hs : starEach [a] X.env = (false, eval a X.env) :: starEach [] X.env := by rfl) :
    VS W X E T (.Expr (.Call (.Attribute o "extend" apos) [a] [] cpos) pos) (cExt i π f) :=
  PS.imp (ps_expr (pe_bm PySem.F.plainAttrs_list PySem.F.slot_list_extend PySem.F.type_list_extend mt_extend ho (pa_cons ha pa_nil hs) hbase hfew hline hs rfl) hsw) fun D σ H ⟨G, ρ, s, r, h⟩ => by
    unfold cExt at h
    split at h
    · rename_i t vs e0
      obtain ⟨e1, e2⟩ := ownAt_of e0
      obtain ⟨w1, A1, q⟩ := r.at e1 e2
      obtain ⟨w, hw, pw⟩ := q.path
      obtain ⟨b, ws, rfl, hb, hA, rs⟩ := at_lst q
      refine ⟨w, _, hw, pw.mono r.sub, .inl ⟨rfl, _, SqL.of hb⟩, ?_⟩
      refine tG.mk r (Pst.mono (PstS.goAt (P := pV X.K H) h) ?_)
      rintro u H1 ⟨G1, s1, v, x, r1, p, h1⟩
      split at h1
      · rename_i us
        split at h1
        · rename_i hz
          obtain ⟨w2, A2, q2⟩ := r1.at e1 e2
          obtain rfl := q.same q2 x.sub
          obtain ⟨b', ws', e3, hb', hA', rs'⟩ := at_lst q2
          cases e3
          obtain ⟨c, zs, rfl, hc, rz⟩ := Rep.seqL p
          refine ⟨b, c, ws', zs, rfl, rfl, hb', r1.sub _ _ hc, by rw [rs'.length, rz.length]; exact hz, ?_⟩
          exact q2.write r1 x hi hA' (nd_lst _).2 (.oL upd_same hA' (rs'.append rz)) h1
        · exact h1.elim
      · exact h1.elim
    · exact h.elim
/-- j = own.pop() -/
def cPop (j i : Nat) (π : List Nat) : Cm W := fun ρ s => match ownAt ρ i π with
  | some (t, .oL vs) => match vs[vs.length - 1]? with
    | some v => .nx ((ρ.set i (some (OT.up π t (.oL vs.dropLast)))).set j (some (.sh v))) s
    | none => .bad
  | _ => .bad
theorem Reps.dropLast {K : PySem.W.Frag} {F : Hp} {ws : List V} {vs : List Val} (r : Reps K F ws vs) : Reps K F ws.dropLast vs.dropLast := by
  rw [List.dropLast_eq_take, List.dropLast_eq_take, r.length]
  exact r.take _
theorem vs_pop {j : Nat} {x : Str} {p2 : Pos} (hi : i ∈ T) (hj : j ∈ T) (hN : X.N.Nodup) (ho : VO X o i π) (hx : X.N[j]? = some x := by rfl) (hl : Loc X.env.scope x := by first | exact Or.inl rfl | exact Or.inr rfl)
    (hs : swapsWith (.Call (.Attribute o "pop" apos) [] [] cpos) (some (.Name x p2)) pos.line X.env = pure false := by rfl)
    (hf : X.fn x = true ∨ X.env.scope.names.lookup x = some .local := by first | exact .inl rfl | exact .inr rfl | assumption)
    (hbase : attributeBase o "pop" X.env (eval o X.env) = eval o X.env := by rfl) (hline : (apos.endLine == cpos.line) = true := by rfl) :
    VS W X E T (.Assign [.Name x p2] (.Call (.Attribute o "pop" apos) [] [] cpos) pos) (cPop j i π) :=
  PS.imp (ps_set hN hx hl (pe_bm0 PySem.F.plainAttrs_list PySem.F.slot_list_pop PySem.F.type_list_pop mt_pop ho hbase hline) hs hf) fun D σ H ⟨G, ρ, s, r, h⟩ => by
    unfold cPop at h
    split at h
    · rename_i t vs e0
      split at h
      · rename_i v ev
        obtain ⟨e1, e2⟩ := ownAt_of e0
        obtain ⟨w1, A1, q⟩ := r.at e1 e2
        obtain ⟨w, hw, pw⟩ := q.path
        obtain ⟨b, ws, rfl, hb, hA, rs⟩ := at_lst q
        obtain ⟨z, hz, rz⟩ := rs.at' ev
        refine ⟨w, _, hw, pw.mono r.sub, .inl ⟨rfl, _, SqL.of hb⟩, b, ws, z, rfl, rfl, hb, by rw [rs.length]; exact hz, ?_⟩
        obtain ⟨h1, h2⟩ := q.one r hA (nd_lst _).2 (.oL upd_same hA rs.dropLast)
        have h3 := h1.put (i := j) (.sh (A := fun _ => False) rz) fun _ z => z.elim
        exact h _ _ _ (Ns.put (h2 (Nx.refl _ _) hi) hj fun _ z => z.elim) ((Off.set hi).trans (Off.set hj)) (Off.set hj) h3
      · exact h.elim
    · exact h.elim
/-- own[k] = v of a dict: v, then the place, then k -/
def putD (ρ : En) (i : Nat) (π : List Nat) (k v : Val) : Option En := match ownAt ρ i π with
  | some (t, .oD b kvs) => match dkey k with
    | some d => if DK.isT d = b ∧ kvs.length < sizeLine then some (ρ.set i (some (OT.up π t (.oD b (vput kvs k d v))))) else none
    | none => none
  | _ => none
def cPut (i : Nat) (π : List Nat) (k v : Ev W) : Cm W := fun ρ s => (v ρ s).go ρ fun y s1 => match ownAt ρ i π with
  | some _ => (k ρ s1).go ρ fun x s2 => match putD ρ i π x y with
    | some ρ' => .nx ρ' s2
    | none => .bad
  | none => .bad
theorem putD_of {ρ' : En} {k v : Val} (h : putD ρ i π k v = some ρ') : ∃ t b kvs d, ownAt ρ i π = some (t, .oD b kvs) ∧ dkey k = some d ∧ DK.isT d = b ∧ kvs.length < sizeLine ∧ ρ' = ρ.set i (some (OT.up π t (.oD b (vput kvs k d v)))) := by
  unfold putD at h
  split at h
  · rename_i t b kvs e
    split at h
    · rename_i d e2
      split at h
      · rename_i hz
        cases h
        exact ⟨t, b, kvs, d, e, e2, hz.1, hz.2, rfl⟩
      · cases h
    · cases h
  · cases h
/-- .. by heaps: the dict's place is w1 -/
theorem putD_run {ρ' : En} {k v : Val} {u z : V} {H0 : Hp} {G0 : Gh} (r : Rel W X.K G ρ s σ H) (x : Nx G0 G H0 H) (hi : i ∈ T) (hk : putD ρ i π k v = some ρ') (rk : Rep X.K G.F u k) (rv : Rep X.K G.F z v)
    (h : PstS W X.K E T G0 ρ σ H0 (.nx ρ' s) D) : ∃ w w1 a H', σ[i]? = some (some w) ∧ PathV G.F π w w1 ∧ w1 = .ref a ∧ DPut H a u z H' ∧ D.nx σ H' := by
  obtain ⟨t, b, kvs, d, e0, ed, hb, hz, rfl⟩ := putD_of hk
  obtain ⟨e1, e2⟩ := ownAt_of e0
  obtain ⟨w1, A1, q⟩ := r.at e1 e2
  obtain ⟨w, hw, pw⟩ := q.path
  rcases rk.key ed with ⟨kk, rfl, rfl, rfl⟩ | ⟨ks, c, rfl, rfl, hc, rfl⟩
  · cases hb
    have qr := q.rep
    cases qr with
    | oK ha hA rp =>
      rename_i a l
      refine ⟨w, _, a, _, hw, pw, rfl, .inl ⟨l, kk, ha, rfl, ?_, rfl⟩, ?_⟩
      · have := rp.length; rw [List.length_map] at this; rw [this]; exact hz
      · exact q.write r x hi hA (fun _ q => (by cases q)) (.oK upd_same hA (RepP.put (e := kVal) (c := Sum.inl) dkey_k inl_inj kk rv rp)) h
  · cases hb
    have qr := q.rep
    cases qr with
    | oDT ha hA rp =>
      rename_i a l
      refine ⟨w, _, a, _, hw, pw, rfl, .inr ⟨l, ks, c, ha, rfl, r.sub _ _ hc, ?_, rfl⟩, ?_⟩
      · have := rp.length; rw [List.length_map] at this; rw [this]; exact hz
      · exact q.write r x hi hA (fun _ q => (by cases q)) (.oDT upd_same hA (RepP.put (κ := List Key) (e := fun ks => Val.tup (ks.map kVal)) (c := Sum.inr) (l := l) dkey_t inr_inj ks rv rp)) h
theorem vs_put (hu : X.A.units + 1 < cLine) (hi : i ∈ T) (ho : VO X o i π) (hk : VE W X E a f) (hv : VE W X E e g) (hs : swapsWith e (some (.Subscript o a pos')) pos.line X.env = pure false := by rfl) :
    VS W X E T (.Assign [.Subscript o a pos'] e pos) (cPut i π f g) :=
  PS.imp (ps_dput hu ho hk hv hs) fun D σ H ⟨G, ρ, s, r, h⟩ => by
    refine tG.mk r (Pst.mono (PstS.goAt (P := pV X.K H) h) ?_)
    rintro z H1 ⟨G1, s1, v, x1, r1, rv, h1⟩
    split at h1
    · rename_i tt e0
      obtain ⟨t, t1⟩ := tt
      obtain ⟨e1, e2⟩ := ownAt_of e0
      obtain ⟨w1, A1, q⟩ := r1.at e1 e2
      obtain ⟨w, hw, pw⟩ := q.path
      refine ⟨w, w1, hw, pw.mono r1.sub, ?_⟩
      refine tG.mk r1 (Pst.mono (PstS.goAt (P := pV X.K H1) (PstS.from (x1.ns T) (Off.refl _ _) (Off.refl _ _) h1)) ?_)
      rintro u H2 ⟨G2, s2, k, x2, r2, rk, h2⟩
      split at h2
      · rename_i ρ' ek
        obtain ⟨w', w1', b, H', hw', pw', rfl, dp, hd⟩ := putD_run r2 x2 hi ek rk (Rep.mono x2.sub rv) h2
        rw [hw] at hw'; cases hw'
        obtain rfl := PathV.inj (pw.mono x2.sub) pw'
        exact ⟨b, H', rfl, dp, hd⟩
      · exact h2.elim
    · exact h1.elim

/-! ### 2. targets -/
abbrev Pu := Val → En → Option En
abbrev Pus := List Val → En → Option En
def VG (W : Wo) (X : Cx) (T : List Nat) (tg : Expr) (p : Pu) : Prop := PG X tg fun w σ H Q => ∃ G ρ s v ρ', Rel W X.K G ρ s σ H ∧ Rep X.K G.F w v ∧ p v ρ = some ρ' ∧
  ∀ G' σ', Ns T G G' H H → Off T ρ ρ' → Off T σ σ' → Rel W X.K G' ρ' s σ' H → Q σ' H
def VGs (W : Wo) (X : Cx) (T : List Nat) (ts : List Expr) (p : Pus) : Prop := PGs X ts fun ws σ H Q => ∃ G ρ s vs ρ', Rel W X.K G ρ s σ H ∧ Reps X.K G.F ws vs ∧ p vs ρ = some ρ' ∧
  ∀ G' σ', Ns T G G' H H → Off T ρ ρ' → Off T σ σ' → Rel W X.K G' ρ' s σ' H → Q σ' H
theorem PG.imp {tg : Expr} {t t' : TG} (h : PG X tg t) (i : ∀ v σ H Q, t' v σ H Q → t v σ H Q) : PG X tg t' := ⟨fun pins s σ H v u Q I r z => h.run pins s σ H v u Q I r (i v σ H Q z)⟩
theorem PGs.imp {tg : List Expr} {t t' : TGs} (h : PGs X tg t) (i : ∀ v σ H Q, t' v σ H Q → t v σ H Q) : PGs X tg t' := ⟨fun pins s σ H v u Q I r z => h.run pins s σ H v u Q I r (i v σ H Q z)⟩
def puN (i : Nat) : Pu := fun v ρ => some (ρ.set i (some (.sh v)))
def puT (p : Pus) : Pu := fun v ρ => match v with
  | .tup vs => p vs ρ
  | .wtup vs => p vs ρ
  | _ => none
def puNil : Pus := fun vs ρ => match vs with
  | [] => some ρ
  | _ => none
def puCons (p : Pu) (q : Pus) : Pus := fun vs ρ => match vs with
  | v :: r => (p v ρ).bind fun ρ1 => q r ρ1
  | _ => none
variable {x : Str} {p : Pu} {q : Pus} {tg : Expr} {tgs : List Expr} {n k : Nat}
theorem vg_name (hi : i ∈ T) (hN : X.N.Nodup) (hx : X.N[i]? = some x := by rfl) (hl : Loc X.env.scope x := by first | exact Or.inl rfl | exact Or.inr rfl)
    (hf : X.fn x = true ∨ X.env.scope.names.lookup x = some .local := by first | exact .inl rfl | exact .inr rfl | assumption) : VG W X T (.Name x pos) (puN i) :=
  PG.imp (pg_name hN hx hl hf) fun w σ H Q ⟨G, ρ, s, v, ρ', r, rp, e, h⟩ => by
    cases e
    exact h _ _ (Ns.put (Ns.refl _ _ _) hi fun _ z => z.elim) (Off.set hi) (Off.set hi) (r.put (.sh (A := fun _ => False) rp) fun _ z => z.elim)
theorem vgs_nil : VGs W X T [] puNil := PGs.imp pgs_nil fun ws σ H Q ⟨G, ρ, s, vs, ρ', r, rp, e, h⟩ => by
  unfold puNil at e
  split at e
  · cases e
    cases rp
    exact ⟨rfl, h G σ (Ns.refl _ _ _) (Off.refl _ _) (Off.refl _ _) r⟩
  · cases e
theorem vgs_cons (h1 : VG W X T tg p) (h2 : VGs W X T tgs q) (hs : (assignEach (tg :: tgs) X.env).map (·.2) = assign tg X.env :: (assignEach tgs X.env).map (·.2) := by rfl) : VGs W X T (tg :: tgs) (puCons p q) :=
  PGs.imp (pgs_cons h1 h2 hs) fun ws σ H Q ⟨G, ρ, s, vs, ρ', r, rp, e, h⟩ => by
    unfold puCons at e
    split at e
    · rename_i v vr
      cases rp with
      | cons r1 r2 =>
        cases q1 : p v ρ with
        | none => rw [q1] at e; cases e
        | some ρ1 =>
          rw [q1] at e
          refine ⟨_, _, rfl, G, ρ, s, v, ρ1, r, r1, q1, fun G1 σ1 x1 o1 o2 rl1 => ?_⟩
          exact ⟨G1, ρ1, s, vr, ρ', rl1, r2.mono x1.sub, e, fun G2 σ2 x2 o3 o4 rl2 => h G2 σ2 (x1.trans x2) (o1.trans o3) (o2.trans o4) rl2⟩
    · cases e
theorem vg_tup (hc : X.calm = true) (h : VGs W X T tgs q) (hq : ∀ vs ρ ρ', q vs ρ = some ρ' → vs.length = n) (hn : (assignEach tgs X.env).length = n := by rfl) (hst : (assignEach tgs X.env).findIdx? (·.1) = none := by rfl) : VG W X T (.Tuple tgs k pos) (puT q) :=
  PG.imp (pg_tup hc h hn hst) fun w σ H Q ⟨G, ρ, s, v, ρ', r, rp, e, h⟩ => by
    unfold puT at e
    split at e
    · obtain ⟨a, ws, rfl, ha, rs⟩ := rp.seqT
      exact ⟨a, ws, rfl, SqT.of (r.sub _ _ ha), by rw [rs.length]; exact hq _ _ _ e, G, ρ, s, _, ρ', r, rs, e, h⟩
    · obtain ⟨a, ws, rfl, ha, rs⟩ := rp.seqW
      exact ⟨a, ws, rfl, r.sub.seqT ha, by rw [rs.length]; exact hq _ _ _ e, G, ρ, s, _, ρ', r, rs, e, h⟩
    · cases e
theorem puNil_len {vs : List Val} {ρ ρ' : En} (h : puNil vs ρ = some ρ') : vs.length = 0 := by
  cases vs with
  | nil => rfl
  | cons _ _ => cases h
theorem puCons_len {m : Nat} (hq : ∀ vs ρ ρ', q vs ρ = some ρ' → vs.length = m) : ∀ vs ρ ρ', puCons p q vs ρ = some ρ' → vs.length = m + 1 := fun vs ρ ρ' h => by
  cases vs with
  | nil => cases h
  | cons v r =>
    have h : (p v ρ).bind (fun ρ1 => q r ρ1) = some ρ' := h
    cases q1 : p v ρ with
    | none => rw [q1] at h; cases h
    | some ρ1 => rw [q1] at h; rw [List.length_cons, hq r ρ1 ρ' h]
/-- a, b = a value -/
def cAsg (p : Pu) (f : Ev W) : Cm W := fun ρ s => (f ρ s).go ρ fun v s1 => match p v ρ with
  | some ρ' => .nx ρ' s1
  | none => .bad
theorem vs_asg (he : VE W X E e f) (hg : VG W X T tg p) (hs : swapsWithSole [tg] e pos.line X.env = pure false := by rfl) (hw : swappedStores [tg] e X.env = pure none := by rfl)
    (h1 : (assignEach [tg] X.env).map (·.2) = [assign tg X.env] := by rfl) : VS W X E T (.Assign [tg] e pos) (cAsg p f) :=
  PS.imp (ps_asg he hg hs hw h1) fun D σ H ⟨G, ρ, s, r, h⟩ => by
    refine tG.mk r (Pst.mono (PstS.go (P := pV X.K H) h) ?_)
    rintro z H1 ⟨G1, s1, v, x1, r1, rv, h1⟩
    split at h1
    · rename_i ρ' e
      exact ⟨G1, ρ, s1, v, ρ', r1, rv, e, fun G' σ' x o1 o2 r' => h1 G' H1 σ' x o1 o2 r'⟩
    · exact h1.elim

/-! ### 3. branches, ends -/
def cIf (t : Sm W Bool) (c d : Cm W) : Cm W := fun ρ s => (t ρ s).go ρ fun b s1 => if b = true then c ρ s1 else d ρ s1
variable {tt : Sm W Bool} {c d : Cm W} {b1 b2 : List Stmt}
theorem vs_if (hc : VT W X E e tt) (h1 : VSs W X E T b1 c) (h2 : VSs W X E T b2 d) : VS W X E T (.If e b1 b2 pos) (cIf tt c d) :=
  PS.imp (ps_if hc h1 h2) fun D σ H ⟨G, ρ, s, r, h⟩ => by
    refine tG.mk (P := pT) r (Pst.mono (PstS.go (P := pT H) h) ?_)
    rintro z H1 ⟨G1, s1, v, x1, r1, rv, h1⟩
    obtain rfl : z = v := rv
    cases z with
    | true => exact ⟨G1, ρ, s1, r1, h1⟩
    | false => exact ⟨G1, ρ, s1, r1, h1⟩
def cRet (f : Ev W) : Cm W := fun ρ s => (f ρ s).go ρ fun v s1 => .rt (.sh v) s1
def cRetF (f : Sm W OT) : Cm W := fun ρ s => (f ρ s).go ρ fun t s1 => .rt t s1
def cRetN : Cm W := fun ρ s => .rt (.sh .non) s
theorem vs_ret (he : VE W X E e f) : VS W X E T (.Return (some e) pos) (cRet f) :=
  PS.imp (ps_ret he) fun D σ H ⟨G, ρ, s, r, h⟩ => by
    refine tG.mk r (Pst.mono (PstS.go (P := pV X.K H) h) ?_)
    rintro z H1 ⟨G1, s1, v, x1, r1, rv, h1⟩
    exact h1 G1 H1 z (Ns.refl _ _ _) r1.toRelW ⟨fun _ => False, .sh rv, fun _ z => z.elim⟩
theorem vs_retF {f : Sm W OT} (he : VF W X E e f) : VS W X E T (.Return (some e) pos) (cRetF f) :=
  PS.imp (ps_ret he) fun D σ H ⟨G, ρ, s, r, h⟩ => by
    refine tG.mk (P := pF X.K) r (Pst.mono (PstS.goAt (P := pF X.K H) h) ?_)
    rintro z H1 ⟨G1, s1, v, x1, r1, ⟨A, ro, hA⟩, h1⟩
    exact h1 G1 H1 z (x1.ns T) r1.toRelW ⟨A, ro, fun a z => ⟨(hA a z).2.1, (hA a z).2.2.1, (hA a z).2.2.2.1, .inr (hA a z).1⟩⟩
theorem vs_retP {f : Sm W OT} (he : VP W X E e f) : VS W X E T (.Return (some e) pos) (cRetF f) :=
  PS.imp (ps_ret he) fun D σ H ⟨G, ρ, s, r, h⟩ => by
    refine tG.mk (P := pP X.K) r (Pst.mono (PstS.go (P := pP X.K H) h) ?_)
    rintro z H1 ⟨G1, s1, v, x1, r1, ⟨A, ro, hA⟩, h1⟩
    refine h1 G1 H1 z (Ns.refl _ _ _) r1.toRelW ⟨A, ro, fun a z => ?_⟩
    obtain ⟨j, hj⟩ := hA a z
    obtain ⟨h2, h3, h4⟩ := r1.own j a hj
    exact ⟨h2, h3, h4, .inl ⟨j, hj⟩⟩
theorem vs_retN : VS W X E T (.Return none pos) cRetN :=
  PS.imp ps_retN fun D σ H ⟨G, ρ, s, r, h⟩ => h G H .non (Ns.refl _ _ _) r.toRelW ⟨fun _ => False, .sh .non, fun _ z => z.elim⟩
end
end VL

/-! VL9: walks, rows of turns, locks. -/
namespace VL
open PySem PySem.Spec PyProof.Rows L2

/-! ### 1. walks -/
/-- it yields xs while what the slots U own stays -/
def Yl (K : PySem.W.Frag) (J : It) (G : Gh) (H : Hp) (U : List Nat) (xs : List Val) : Prop := ∀ (F2 H2 : Hp), Sub G.F F2 → Sub F2 H2 → (∀ a ws, H2 a = some (.tup ws) → F2 a = some (.tup ws)) → (∀ a i, i ∈ U → G.ad i a → H2 a = H a) → ∀ i : Nat,
  (∀ v, xs[i]? = some v → J.go i H2 ∧ ∀ x H3, J.yld i H2 x H3 → (H3 = H2 ∧ Rep K F2 x v) ∨ ∃ p ws vs, H2 p = none ∧ H3 = upd H2 p (.tup ws) ∧ x = .ref p ∧ v = .tup vs ∧ Reps K F2 ws vs) ∧ (xs.length ≤ i → J.stop i H2)
def pI (K : PySem.W.Frag) (U : List Nat) : Hp → RP It (List Val) := fun _ G H J xs => Yl K J G H U xs
def VI (W : Wo) (X : Cx) (E : WX) (U : List Nat) (tg iter : Expr) (f : Sm W (List Val)) : Prop := PI X tg iter fun σ H R => tG W X.K E (pI X.K U) f σ H R
theorem PI.imp {X : Cx} {tg iter : Expr} {t t' : TI} (h : PI X tg iter t) (i : ∀ σ H R, t' σ H R → t σ H R) : PI X tg iter t' := ⟨fun pins s σ H R I z => h.run pins s σ H R I (i σ H R z)⟩
/-- a place, its things owned by the slots U -/
def pPU (K : PySem.W.Frag) (U : List Nat) : Hp → RP V OT := fun _ G H w t => ∃ A, RepO K G.F H A w t ∧ ∀ a, A a → ∃ i, i ∈ U ∧ G.ad i a
def VPU (W : Wo) (X : Cx) (E : WX) (U : List Nat) (e : Expr) (f : Sm W OT) : Prop := PE X e (tG W X.K E (pPU X.K U) f)
section
variable {W : Wo} {X : Cx} {E : WX} {U T : List Nat} {e tg : Expr} {f : Ev W} {p : Sm W OT} {pos : Pos}
theorem vpu_var (i : Nat) {x : Str} {pos : Pos} (hN : X.N[i]? = some x := by rfl) (hv : Vis X.env.scope x := by first | exact Or.inl rfl | exact Or.inr (Or.inl rfl) | exact Or.inr (Or.inr rfl)) (hd : (x == ("__debug__" : Str)) = false := by decide)
    (hcd : (x == ("__classdict__" : Str)) = false := by decide) : VPU W X E [i] (.Name x pos) (pVar i) := by
  refine PE.imp (pe_var (i := i) hN hv hd hcd) fun σ H Q ⟨G, ρ, s, r, h⟩ => ?_
  unfold pVar at h
  cases q : ρ[i]? with
  | none => rw [q] at h; exact h.elim
  | some t =>
    cases t with
    | none => rw [q] at h; exact h.elim
    | some t =>
      rw [q] at h
      obtain ⟨w, h1, h2⟩ := r.slot i _ q
      exact ⟨w, h1, h.done r ⟨_, h2, fun a z => ⟨i, by simp, z⟩⟩⟩
theorem vpu_e (h : VE W X E e f) : VPU W X E [] e (pE f) := PE.imp h fun σ H Q hq => by
  obtain ⟨G, ρ, s, r, hq⟩ := hq
  refine ⟨G, ρ, s, r, Pst.mono (Pst.bind (P := pV X.K H) hq) ?_⟩
  rintro w H1 ⟨G1, s1, v, x1, r1, rp, h'⟩
  exact h'.done r1 ⟨_, .sh (A := fun _ => False) rp, fun _ z => z.elim⟩
/-- the rest behind an expression, by what is known of it -/
theorem tG.bind {α β γ δ : Type} {P : Hp → RP γ α} {P' : Hp → RP δ β} {g : Sm W α} {k : α → W.S → R W.S β} {σ : L2.St} {H : Hp} {Q : δ → Hp → Prop} (h : tG W X.K E P' (fun ρ s => (g ρ s).bind k) σ H Q) :
    tG W X.K E P g σ H fun w H1 => ∃ G ρ s v, Rel W X.K G ρ s σ H1 ∧ P H G H1 w v ∧ Pst W X.K E (P' H) G ρ σ H1 (k v s) Q := by
  obtain ⟨G, ρ, s, r, h⟩ := h
  exact tG.mk r (Pst.mono (Pst.bind (P := P H) h) fun w H1 ⟨G1, s1, v, x1, r1, p, h1⟩ => ⟨G1, ρ, s1, v, r1, p, h1⟩)
def OT.listI : OT → Option (List Val)
  | .sh (.lst xs) => some xs
  | .oL xs => some xs
  | _ => none
def OT.tupI : OT → Option (List Val)
  | .sh (.tup xs) => some xs
  | .sh (.wtup xs) => some xs
  | _ => none
def OT.keysI : OT → Option (List Val)
  | .sh (.dic _ kvs) => some (kvs.map (·.1))
  | .oR _ kvs => some (kvs.map (·.1))
  | _ => none
def OT.itemsI : OT → Option (List Val)
  | .sh (.dic false kvs) => some (kvs.map fun p => .tup [p.1, p.2])
  | .oR false kvs => some (kvs.map fun p => .tup [p.1, p.2])
  | _ => none
def iOf (g : OT → Option (List Val)) (p : Sm W OT) : Sm W (List Val) := fun ρ s => (p ρ s).bind fun t s1 => R.opt (g t) s1
theorem yl_list {K : PySem.W.Frag} {G : Gh} {H : Hp} {a : Addr} {ws : List V} {vs : List Val} (hsub : Sub G.F H) (rs : Reps K G.F ws vs) (hl : G.F a = some (.lst ws) ∨ (∃ i, i ∈ U ∧ G.ad i a) ∧ H a = some (.lst ws)) : Yl K (Itl K a) G H U vs := by
  intro F2 H2 s1 s2 ht hk i
  have hH : SqL K H2 a ws := by
    rcases hl with h | ⟨⟨j, hj, h⟩, h2⟩
    · exact SqL.of (s2 _ _ (s1 _ _ h))
    · exact SqL.of ((hk a j hj h).trans h2)
  refine ⟨fun v e => ?_, fun hi => ⟨ws, hH, by rw [rs.length]; exact hi⟩⟩
  obtain ⟨w, e1, r1⟩ := rs.at' e
  refine ⟨⟨ws, w, hH, e1⟩, fun x H3 y => .inl ?_⟩
  obtain ⟨e3, y⟩ := y
  have y := y ws hH
  rw [e1] at y; cases y
  exact ⟨e3, r1.mono s1⟩
theorem vi_list (h : VPU W X E U e p) : VI W X E U tg e (iOf OT.listI p) := PI.imp (pi_list h) fun σ H R hq => by
  refine (tG.bind (P := pPU X.K U) hq).mono ?_
  rintro w H1 ⟨G, ρ, s, t, r, ⟨A, ro, hA⟩, h'⟩
  obtain ⟨xs, e, h'⟩ := Pst.opt h'
  unfold OT.listI at e
  split at e
  · cases e
    cases ro with
    | sh rp =>
      obtain ⟨a, ws, rfl, ha, rs⟩ := rp.seqL
      exact ⟨a, rfl, ⟨ws, SqL.of (r.sub _ _ ha)⟩, h'.done r (yl_list r.sub rs (.inl ha))⟩
  · cases e
    cases ro with
    | oL ha z rs =>
      rename_i a ws
      exact ⟨a, rfl, ⟨ws, SqL.of ha⟩, h'.done r (yl_list r.sub rs (.inr ⟨hA a z, ha⟩))⟩
  · cases e
theorem vi_tup (h : VPU W X E U e p) : VI W X E U tg e (iOf OT.tupI p) := PI.imp (pi_tup h) fun σ H R hq => by
  refine (tG.bind (P := pPU X.K U) hq).mono ?_
  rintro w H1 ⟨G, ρ, s, t, r, ⟨A, ro, hA⟩, h'⟩
  obtain ⟨xs, e, h'⟩ := Pst.opt h'
  have go : ∀ (a : Addr) (ws : List V), SqT X.K G.F a ws → Reps X.K G.F ws xs → (∃ a', (V.ref a) = .ref a' ∧ (∃ xs, SqT X.K H1 a' xs) ∧ R (Itt X.K a') H1) := fun a ws ha rs => by
    refine ⟨a, rfl, ⟨ws, r.sub.seqT ha⟩, h'.done r fun F2 H2 s1 s2 ht hk i => ?_⟩
    have hH : SqT X.K H2 a ws := s2.seqT (s1.seqT ha)
    refine ⟨fun v e => ?_, fun hi => ⟨ws, hH, by rw [rs.length]; exact hi⟩⟩
    obtain ⟨w, e1, r1⟩ := rs.at' e
    refine ⟨⟨ws, w, hH, e1⟩, fun x H3 y => .inl ?_⟩
    obtain ⟨e3, y⟩ := y
    have y := y ws hH
    rw [e1] at y; cases y
    exact ⟨e3, r1.mono s1⟩
  unfold OT.tupI at e
  split at e
  · cases e
    cases ro with
    | sh rp =>
      obtain ⟨a, ws, rfl, ha, rs⟩ := rp.seqT
      exact go a ws (SqT.of ha) rs
  · cases e
    cases ro with
    | sh rp =>
      obtain ⟨a, ws, rfl, ha, rs⟩ := rp.seqW
      exact go a ws ha rs
  · cases e
theorem RepP.key {K : PySem.W.Frag} {F : Hp} {κ : Type} {e : κ → Val} {i : Nat} {v : Val} : ∀ {l : List (κ × V)} {kvs : List (Val × Val)}, RepP K F (l.map fun p => (e p.1, p.2)) kvs → (kvs.map (·.1))[i]? = some v → ∃ k w, l[i]? = some (k, w) ∧ v = e k := by
  intro l kvs h q
  rw [← h.keys, List.map_map, List.getElem?_map] at q
  cases z : l[i]? with
  | none => rw [z] at q; cases q
  | some p => rw [z] at q; cases q; exact ⟨p.1, p.2, rfl, rfl⟩
theorem Reps.keys {K : PySem.W.Frag} {F : Hp} : ∀ ks : List Key, Reps K F (ks.map kV) (ks.map kVal)
  | [] => .nil
  | .inl i :: r => .cons (.int i) (Reps.keys r)
  | .inr x :: r => .cons (.str x) (Reps.keys r)
theorem yl_dK {K : PySem.W.Frag} {G : Gh} {H : Hp} {a : Addr} {o : Obj} {l : List (Key × V)} {kvs : List (Val × Val)} (rs : RepP K G.F (l.map kK) kvs) (hl : G.F a = some (.frz o (.dK l)) ∨ (∃ i, i ∈ U ∧ G.ad i a) ∧ H a = some (.frz o (.dK l))) : Yl K (Itk a o l) G H U (kvs.map (·.1)) := by
  intro F2 H2 s1 s2 ht hk i
  have hH : H2 a = some (.frz o (.dK l)) := by
    rcases hl with h | ⟨⟨j, hj, h⟩, h2⟩
    · exact s2 _ _ (s1 _ _ h)
    · exact (hk a j hj h).trans h2
  have hlen : l.length = kvs.length := by have := rs.length; rw [List.length_map] at this; exact this
  refine ⟨fun v e => ?_, fun hi => ⟨hH, by rw [List.length_map] at hi; omega⟩⟩
  obtain ⟨k, w, e1, rfl⟩ := RepP.key (e := kVal) rs e
  refine ⟨⟨hH, (List.getElem?_eq_some_iff.mp e1).1⟩, fun x H3 y => .inl ?_⟩
  obtain ⟨e3, k', v', e4, rfl⟩ := y
  rw [e1] at e4; cases e4
  refine ⟨e3, ?_⟩
  cases k with
  | inl i => exact .int i
  | inr z => exact .str z
theorem yl_dT {K : PySem.W.Frag} {G : Gh} {H : Hp} {a : Addr} {o : Obj} {l : List (List Key × V)} {kvs : List (Val × Val)} (rs : RepP K G.F (l.map kT) kvs) (hl : G.F a = some (.frz o (.dT l)) ∨ (∃ i, i ∈ U ∧ G.ad i a) ∧ H a = some (.frz o (.dT l))) : Yl K (Itkt a o l) G H U (kvs.map (·.1)) := by
  intro F2 H2 s1 s2 ht hk i
  have hH : H2 a = some (.frz o (.dT l)) := by
    rcases hl with h | ⟨⟨j, hj, h⟩, h2⟩
    · exact s2 _ _ (s1 _ _ h)
    · exact (hk a j hj h).trans h2
  have hlen : l.length = kvs.length := by have := rs.length; rw [List.length_map] at this; exact this
  refine ⟨fun v e => ?_, fun hi => ⟨hH, by rw [List.length_map] at hi; omega⟩⟩
  obtain ⟨k, w, e1, rfl⟩ := RepP.key (κ := List Key) (e := fun ks => Val.tup (ks.map kVal)) rs e
  refine ⟨⟨hH, (List.getElem?_eq_some_iff.mp e1).1⟩, fun x H3 y => .inl ?_⟩
  obtain ⟨e3, k', v', q, e4, rfl, e5⟩ := y
  rw [e1] at e4; cases e4
  exact ⟨e3, .tup (ht q _ e5) (Reps.keys k)⟩
theorem vi_keys (h : VPU W X E U e p) : VI W X E U tg e (iOf OT.keysI p) := PI.imp (pi_keys h) fun σ H R hq => by
  refine (tG.bind (P := pPU X.K U) hq).mono ?_
  rintro w H1 ⟨G, ρ, s, t, r, ⟨A, ro, hA⟩, h'⟩
  obtain ⟨xs, e, h'⟩ := Pst.opt h'
  unfold OT.keysI at e
  split at e
  · cases e
    cases ro with
    | sh rp =>
      cases rp with
      | dK hr rs =>
        rename_i a l
        rcases hr with hr | ⟨o, hr⟩
        · exact absurd hr ((r.lk a).1 l)
        · exact ⟨a, o, rfl, .inl ⟨l, r.sub _ _ hr, h'.done r (yl_dK rs (.inl hr))⟩⟩
      | dT hr rs =>
        rename_i a l
        rcases hr with hr | ⟨o, hr⟩
        · exact absurd hr ((r.lk a).2 l)
        · exact ⟨a, o, rfl, .inr ⟨l, r.sub _ _ hr, h'.done r (yl_dT rs (.inl hr))⟩⟩
  · cases e
    cases ro with
    | oRK hr z rs => exact ⟨_, _, rfl, .inl ⟨_, hr, h'.done r (yl_dK rs (.inr ⟨hA _ z, hr⟩))⟩⟩
    | oRT hr z rs => exact ⟨_, _, rfl, .inr ⟨_, hr, h'.done r (yl_dT rs (.inr ⟨hA _ z, hr⟩))⟩⟩
  · cases e
/-! ranges -/
def small62 (i : Int) : Bool := decide (-(2 ^ 62) ≤ i) && decide (i < 2 ^ 62)
def rngI (lo : Int) (n : Nat) : List Val := (List.range n).map fun i => Val.int (lo + (i : Nat))
def iR1 (f : Ev W) : Sm W (List Val) := fun ρ s => (f ρ s).bind fun v s1 => match v with
  | .int j => if small62 j = true then .ok (rngI 0 j.toNat) s1 else .bad
  | _ => .bad
def iR2 (f g : Ev W) : Sm W (List Val) := fun ρ s => (f ρ s).bind fun v s1 => (g ρ s1).bind fun u s2 => match v, u with
  | .int i, .int j => if (small62 i && small62 j) = true then .ok (rngI i (j - i).toNat) s2 else .bad
  | _, _ => .bad
theorem yl_rng {K : PySem.W.Frag} {G : Gh} {H : Hp} {lo : Int} {n : Nat} : Yl K (Itr lo n) G H U (rngI lo n) := by
  intro F2 H2 s1 s2 ht hk i
  unfold rngI
  refine ⟨fun v e => ?_, fun hi => ?_⟩
  · rw [List.getElem?_map] at e
    cases q : (List.range n)[i]? with
    | none => rw [q] at e; cases e
    | some k =>
      rw [q] at e; cases e
      obtain ⟨h1, h2⟩ := List.getElem?_eq_some_iff.mp q
      rw [List.getElem_range] at h2
      subst h2
      rw [List.length_range] at h1
      refine ⟨h1, fun x H3 y => .inl ?_⟩
      obtain ⟨e3, rfl⟩ := y
      exact ⟨e3, .int _⟩
  · rw [List.length_map, List.length_range] at hi; exact hi
theorem small62_of {j : Int} (h : small62 j = true) : -(2 ^ 62) ≤ j ∧ j < 2 ^ 62 := by
  unfold small62 at h
  rw [Bool.and_eq_true] at h
  exact ⟨of_decide_eq_true h.1, of_decide_eq_true h.2⟩
variable {a b : Expr} {g : Ev W} {p1 : Pos}
theorem vi_r1 (hg : Gl X "range") (hm : X.mg "range" = none) (ha : VE W X E a f) (h1 : starEach [a] X.env = (false, eval a X.env) :: starEach [] X.env := by rfl) (hs : starEach [a] X.env = [(false, eval a X.env)] := by rfl) : VI W X E U tg (.Call (.Name "range" p1) [a] [] pos) (iR1 f) :=
  PI.imp (pi_range1 hg hm (pa_cons ha pa_nil h1) hs) fun σ H R hq => by
    refine (tG.bind (P := pV X.K) hq).mono ?_
    rintro w H1 ⟨G, ρ, s, v, r, rp, h'⟩
    have rp : Rep X.K G.F w v := rp
    split at h'
    · split at h'
      · cases rp.int_inv
        obtain ⟨q1, q2⟩ := small62_of (by assumption)
        exact ⟨_, rfl, q1, q2, h'.done r yl_rng⟩
      · exact h'.elim
    · exact h'.elim
theorem vi_r2 (hg : Gl X "range") (hm : X.mg "range" = none) (ha : VE W X E a f) (hb : VE W X E b g) (h1 : starEach [a, b] X.env = (false, eval a X.env) :: starEach [b] X.env := by rfl) (h2 : starEach [b] X.env = (false, eval b X.env) :: starEach [] X.env := by rfl)
    (hs : starEach [a, b] X.env = [(false, eval a X.env), (false, eval b X.env)] := by rfl) (hs2 : starEach [b] X.env = [(false, eval b X.env)] := by rfl) : VI W X E U tg (.Call (.Name "range" p1) [a, b] [] pos) (iR2 f g) :=
  PI.imp (pi_range2 hg hm (pa_cons ha (pa_cons hb pa_nil h2) h1) hs hs2) fun σ H R hq => by
    have h' := seq2 (P := pV X.K) (P' := pV X.K) (P2 := pI X.K U) (f := f) (f2 := g) (g := fun v u _ s2 => match v, u with
      | .int i, .int j => if (small62 i && small62 j) = true then .ok (rngI i (j - i).toNat) s2 else .bad
      | _, _ => .bad) (fun _ z => z) pV.keeps hq
    refine h'.mono fun w H1 k1 => k1.mono ?_
    clear h' hq
    rintro u H2 ⟨G, ρ, s, v, v2, r, rp, rp2, h'⟩
    have rp : Rep X.K G.F w v := rp
    have rp2 : Rep X.K G.F u v2 := rp2
    split at h'
    · split at h'
      · rename_i hz
        rw [Bool.and_eq_true] at hz
        cases rp.int_inv
        cases rp2.int_inv
        obtain ⟨q1, q2⟩ := small62_of hz.1
        obtain ⟨q3, q4⟩ := small62_of hz.2
        exact ⟨_, _, rfl, ⟨q1, q2, q3, q4⟩, h'.done r yl_rng⟩
      · exact h'.elim
    · exact h'.elim

/-! ### 2. rows of turns -/
def forS (p : Pu) (b : Cm W) : List Val → Cm W
  | [], ρ, s => .nx ρ s
  | x :: xs, ρ, s => match p x ρ with
    | none => .bad
    | some ρ1 => match b ρ1 s with
      | .nx ρ2 s2 => forS p b xs ρ2 s2
      | .ct ρ2 s2 => forS p b xs ρ2 s2
      | .bk ρ2 s2 => .nx ρ2 s2
      | .rt t s2 => .rt t s2
      | .exc c n ρ2 s2 => .exc c n ρ2 s2
      | .bad => .bad
def cFor (f : Sm W (List Val)) (p : Pu) (b : Cm W) : Cm W := fun ρ s => (f ρ s).go ρ fun xs s1 => forS p b xs ρ s1
variable {it : Sm W (List Val)} {pu : Pu} {bd : Cm W} {body : List Stmt} {iter : Expr}
theorem vs_for (hp : PassesOwn (model X.prog X.w) X.A X.env X.xe) (hc : X.calm = true) (hi : VI W X E U tg iter it) (hg : VG W X T tg pu) (hb : VSs W X E T body bd) (hU : ∀ i ∈ U, i ∉ T)
    (hs : ∀ x, foldedSetIterable iter X.env x = pure x := by intro _; rfl) : VS W X E T (.For tg iter body [] pos) (cFor it pu bd) :=
  PS.imp (ps_for hp hc hi hg hb hs) fun D σ H ⟨G0, ρ0, s0, r0, h0⟩ => by
    refine tG.mk (f := it) (P := pI X.K U) r0 (Pst.mono (PstS.go (P := pI X.K U H) h0) ?_)
    rintro J H1 ⟨G1, s1, xs, x1, r1, yl, h1⟩
    refine ⟨fun i m σ' H' => m = xs.length - i ∧ i ≤ xs.length ∧ ∃ G' ρ' s', Rel W X.K G' ρ' s' σ' H' ∧ Ns T G1 G' H1 H' ∧ PstS W X.K E T G' ρ' σ' H' (forS pu bd (xs.drop i) ρ' s') D,
      ⟨xs.length, by simp, Nat.zero_le _, G1, ρ0, s1, r1, Ns.refl _ _ _, by rw [List.drop_zero]; exact h1⟩, ?_⟩
    rintro i m σ' H' ⟨rfl, hile, G', ρ', s', r', x', h'⟩
    have pins : ∀ a i, i ∈ U → G1.ad i a → H' a = H1 a := fun a i hi z => by
      obtain ⟨q1, ⟨o, q2, _⟩, q3⟩ := r1.own i a z
      rw [q2]
      exact x'.keep a o q2 q3 fun j hj y => r1.dis i j a (fun e => hU i hi (by rw [e]; exact hj)) z y
    have Y := yl G'.F H' x'.sub r'.sub r'.tups pins i
    by_cases hlt : i < xs.length
    · refine .inr ?_
      have ex : xs[i]? = some xs[i] := by simp [hlt]
      obtain ⟨hgo, hy⟩ := Y.1 _ ex
      rw [List.drop_eq_getElem_cons hlt] at h'
      have h'' : PstS W X.K E T G' ρ' σ' H' (match pu xs[i] ρ' with
        | none => .bad
        | some ρ1 => match bd ρ1 s' with
          | .nx ρ2 s2 => forS pu bd (xs.drop (i + 1)) ρ2 s2
          | .ct ρ2 s2 => forS pu bd (xs.drop (i + 1)) ρ2 s2
          | .bk ρ2 s2 => .nx ρ2 s2
          | .rt t s2 => .rt t s2
          | .exc c n ρ2 s2 => .exc c n ρ2 s2
          | .bad => .bad) D := h'
      clear h'
      refine ⟨hgo, fun σ2 H2 => ∃ m', m' < xs.length - i ∧ (m' = xs.length - (i + 1) ∧ i + 1 ≤ xs.length ∧ ∃ G2 ρ2 s2, Rel W X.K G2 ρ2 s2 σ2 H2 ∧ Ns T G1 G2 H1 H2 ∧ PstS W X.K E T G2 ρ2 σ2 H2 (forS pu bd (xs.drop (i + 1)) ρ2 s2) D), fun σ2 H2 z => z, fun x H3 y => ?_⟩
      -- the item in the heap H3
      obtain ⟨G3, x3, r3, rp3⟩ : ∃ G3, Nx G' G3 H' H3 ∧ Rel W X.K G3 ρ' s' σ' H3 ∧ Rep X.K G3.F x xs[i] := by
        rcases hy x H3 y with ⟨rfl, rp⟩ | ⟨q, ws, vs, hq, rfl, rfl, ev, rs⟩
        · exact ⟨G', Nx.refl _ _, r', rp⟩
        · obtain ⟨z1, z2⟩ := pV.new (o := .tup ws) r' hq (nd_tup ws)
          exact ⟨_, z1, z2, by rw [ev]; exact .tup upd_same (rs.mono (Sub.upd (r'.toRelW.free hq)))⟩
      cases ep : pu xs[i] ρ' with
      | none => rw [ep] at h''; exact h''.elim
      | some ρ1 =>
        rw [ep] at h''
        refine ⟨G3, ρ', s', xs[i], ρ1, r3, rp3, ep, fun G4 σ4 x4 o4 o4' r4 => ⟨G4, ρ1, s', r4, ?_⟩⟩
        have x14 : Ns T G1 G4 H1 H3 := x'.trans ((x3.ns T).trans x4)
        have x04 : Ns T G' G4 H' H3 := (x3.ns T).trans x4
        dsimp only at h''
        cases eb : bd ρ1 s' with
        | bad => rw [eb] at h''; exact h''.elim
        | nx ρ2 s2 =>
          rw [eb] at h''
          exact fun G5 H5 σ5 x5 o5 o5' r5 => ⟨_, by omega, rfl, hlt, G5, ρ2, s2, r5, x14.trans x5, PstS.from (x04.trans x5) (o4.trans o5) (o4'.trans o5') h''⟩
        | ct ρ2 s2 =>
          rw [eb] at h''
          exact fun G5 H5 σ5 x5 o5 o5' r5 => ⟨_, by omega, rfl, hlt, G5, ρ2, s2, r5, x14.trans x5, PstS.from (x04.trans x5) (o4.trans o5) (o4'.trans o5') h''⟩
        | bk ρ2 s2 =>
          rw [eb] at h''
          exact fun G5 H5 σ5 x5 o5 o5' r5 => h'' G5 H5 σ5 (x04.trans x5) (o4.trans o5) (o4'.trans o5') r5
        | rt t s2 =>
          rw [eb] at h''
          exact fun G5 H5 w5 x5 r5 p5 => h'' G5 H5 w5 (x04.trans x5) r5 (p5.from x04)
        | exc c n ρ2 s2 =>
          rw [eb] at h''
          exact fun G5 H5 σ5 d5 x5 o5 o5' r5 e5 => h'' G5 H5 σ5 d5 (x04.trans x5) (o4.trans o5) (o4'.trans o5') r5 e5
    · have e : i = xs.length := by omega
      subst e
      refine .inl ⟨Y.2 (Nat.le_refl _), ?_⟩
      rw [List.drop_length] at h'
      exact h'.nx' r'
/-- while: at most n turns -/
def whileS (t : Sm W Bool) (b : Cm W) : Nat → Cm W
  | 0, _, _ => .bad
  | n + 1, ρ, s => (t ρ s).go ρ fun c s1 => if c = true then match b ρ s1 with
      | .nx ρ2 s2 => whileS t b n ρ2 s2
      | .ct ρ2 s2 => whileS t b n ρ2 s2
      | .bk ρ2 s2 => .nx ρ2 s2
      | .rt t s2 => .rt t s2
      | .exc c n ρ2 s2 => .exc c n ρ2 s2
      | .bad => .bad
    else .nx ρ s1
def cWhile (m : En → Nat) (t : Sm W Bool) (b : Cm W) : Cm W := fun ρ s => whileS t b (m ρ) ρ s
variable {tt : Sm W Bool} {c : Expr}
theorem vs_while {m : En → Nat} (hp : PassesOwn (model X.prog X.w) X.A X.env X.xe) (hc : VT W X E c tt) (hb : VSs W X E T body bd) : VS W X E T (.While c body [] pos) (cWhile m tt bd) :=
  PS.imp (ps_while hp hc hb) fun D σ H ⟨G0, ρ0, s0, r0, h0⟩ => by
    refine ⟨fun n σ' H' => ∃ G' ρ' s', Rel W X.K G' ρ' s' σ' H' ∧ PstS W X.K E T G' ρ' σ' H' (whileS tt bd n ρ' s') D, ⟨_, G0, ρ0, s0, r0, h0⟩, ?_⟩
    rintro n σ' H' ⟨G', ρ', s', r', h'⟩
    cases n with
    | zero => exact h'.elim
    | succ n =>
      refine tG.mk (P := pT) r' (Pst.mono (PstS.go (P := pT H') h') ?_)
      rintro b H1 ⟨G1, s1, v, x1, r1, rv, h1⟩
      obtain rfl : b = v := rv
      cases b with
      | false => exact PstS.nx' r1 h1
      | true =>
        rw [if_pos rfl] at h1 ⊢
        refine ⟨fun σ2 H2 => ∃ m', m' < n + 1 ∧ ∃ G2 ρ2 s2, Rel W X.K G2 ρ2 s2 σ2 H2 ∧ PstS W X.K E T G2 ρ2 σ2 H2 (whileS tt bd m' ρ2 s2) D, fun σ2 H2 z => z, G1, ρ', s1, r1, ?_⟩
        cases eb : bd ρ' s1 with
        | bad => rw [eb] at h1; exact h1.elim
        | nx ρ2 s2 =>
          rw [eb] at h1
          exact fun G5 H5 σ5 x5 o5 o5' r5 => ⟨n, by omega, G5, ρ2, s2, r5, PstS.from x5 o5 o5' h1⟩
        | ct ρ2 s2 =>
          rw [eb] at h1
          exact fun G5 H5 σ5 x5 o5 o5' r5 => ⟨n, by omega, G5, ρ2, s2, r5, PstS.from x5 o5 o5' h1⟩
        | bk ρ2 s2 =>
          rw [eb] at h1
          exact h1
        | rt t s2 =>
          rw [eb] at h1
          exact h1
        | exc c n ρ2 s2 =>
          rw [eb] at h1
          exact h1
end
end VL

/-! VL10: defs and calls; a dict walked while it is one's own. -/
namespace VL
open PySem PySem.Spec PyProof.Rows L2

/-! ### 1. what a def promises -/
/-- behind a call -/
structure Nc (G G' : Gh) (H H' : Hp) : Prop where
  sub : Sub G.F G'.F
  keep : ∀ a o, H a = some o → ¬ G.fp a → H' a = some o
  there : ∀ a, H' a = none → H a = none
  fp : ∀ a, G'.fp a → G.fp a ∨ H a = none
  fz : ∀ a o, G'.F a = some o → G.F a = some o ∨ H a = none ∨ G.fp a ∨ ∃ ws, o = .tup ws
def pN (K : PySem.W.Frag) (H : Hp) (G' : Gh) (H' : Hp) (w : V) (t : OT) : Prop :=
  ∃ A, RepO K G'.F H' A w t ∧ ∀ a, A a → H a = none ∧ G'.F a = none ∧ (∃ o, H' a = some o ∧ ∀ ws, o ≠ .tup ws) ∧ ¬ G'.fp a
abbrev Fv (W : Wo) := List Val → W.S → R W.S OT
def PstC (W : Wo) (K : PySem.W.Frag) (G : Gh) (H : Hp) (r : R W.S OT) (Q : VK) (E : XK) : Prop := match r with
  | .ok t s' => ∀ G' H' w, Nc G G' H H' → RelW W G' s' H' → pN K H G' H' w t → Q w H'
  | .exc c n s' => ∀ G' H' d, Nc G G' H H' → RelW W G' s' H' → H' d = some (.xd (atF n)) → E (.ref c) (some d) H'
  | .bad => False
/-- f of n arguments -/
def VSp (W : Wo) (K : PySem.W.Frag) (n : Nat) (f : Fv W) : Sp := fun vs H Q E => ∃ G s xs, RelW W G s H ∧ Reps K G.F vs xs ∧ xs.length = n ∧ PstC W K G H (f xs s) Q E
/-- the slots at a def's entry -/
def enter (n : Nat) (xs : List Val) : En := xs.map (fun v => some (.sh v)) ++ List.replicate (n - xs.length) none
def Out.fin {S : Type} (o : Out S) : R S OT := match o with
  | .nx _ s => .ok (.sh .non) s
  | .rt t s => .ok t s
  | .exc c n _ s => .exc c n s
  | _ => .bad
def cDef {W : Wo} (n : Nat) (c : Cm W) : Fv W := fun xs s => (c (enter n xs) s).fin
theorem enter_len {n : Nat} {xs : List Val} (h : xs.length ≤ n) : (enter n xs).length = n := by
  unfold enter
  rw [List.length_append, List.length_map, List.length_replicate]
  omega
theorem start_at {N : List Str} {vs : List V} {i : Nat} {w : V} (h : vs[i]? = some w) : (L2.start N vs)[i]? = some (some w) := by
  have hl := (List.getElem?_eq_some_iff.mp h).1
  unfold L2.start
  rw [List.getElem?_append_left (by rw [List.length_map]; exact hl), List.getElem?_map, h]
  rfl
theorem enter_at {n : Nat} {xs : List Val} {i : Nat} {t : OT} (h : (enter n xs)[i]? = some (some t)) : ∃ v, xs[i]? = some v ∧ t = .sh v := by
  unfold enter at h
  by_cases hl : i < xs.length
  · rw [List.getElem?_append_left (by rw [List.length_map]; exact hl), List.getElem?_map] at h
    cases q : xs[i]? with
    | none => rw [q] at h; cases h
    | some v => rw [q] at h; cases h; exact ⟨v, rfl, rfl⟩
  · rw [List.getElem?_append_right (by rw [List.length_map]; omega)] at h
    rw [List.getElem?_replicate] at h
    split at h
    · cases h
    · cases h
section
variable {W : Wo} {K : PySem.W.Frag}
/-- nothing is one's own at the entry -/
def Gh.bare (G : Gh) : Gh := { G with ad := fun _ _ => False }
theorem Rel.start {G : Gh} {s : W.S} {H : Hp} {N : List Str} {vs : List V} {xs : List Val} (r : RelW W G s H) (rs : Reps K G.F vs xs) (hn : xs.length ≤ N.length) : Rel W K G.bare (enter N.length xs) s (L2.start N vs) H where
  sub := r.sub
  tups := r.tups
  lk := r.lk
  wrl := r.wrl
  len := by
    rw [enter_len hn]
    unfold L2.start
    rw [List.length_append, List.length_map, List.length_replicate, rs.length]
    omega
  slot := fun i t e => by
    obtain ⟨v, h1, rfl⟩ := enter_at e
    obtain ⟨w, h2, h3⟩ := rs.at' h1
    exact ⟨w, start_at h2, .sh h3⟩
  own := fun _ _ z => z.elim
  dis := fun _ _ _ _ z => z.elim
theorem Ns.nc {T : List Nat} {G G' : Gh} {H H' : Hp} (x : Ns T G.bare G' H H') : Nc G G' H H' where
  sub := x.sub
  keep := fun a o e n => x.keep a o e n fun _ _ z => z
  there := x.there
  fp := x.fp
  fz := fun a o e => by
    rcases x.fz a o e with q | q | q | ⟨_, _, q⟩ | q
    · exact .inl q
    · exact .inr (.inl q)
    · exact .inr (.inr (.inl q))
    · exact q.elim
    · exact .inr (.inr (.inr q))
/-- a def's body keeps its promise -/
theorem def_run {E : WX} {T : List Nat} {G : Gh} {s : W.S} {H : Hp} {N : List Str} {vs : List V} {xs : List Val} {c : Cm W} {Q : VK} {EX : XK} (r : RelW W G s H) (rs : Reps K G.F vs xs) (hn : xs.length ≤ N.length)
    (h : PstC W K G H (cDef N.length c xs s) Q EX) (hE : ∀ cls d σ H', EX cls d H' → E cls d σ H') : tS W K E T c { nx := fun _ H' => Q .non H', rt := Q } (L2.start N vs) H := by
  refine ⟨G.bare, _, s, Rel.start r rs hn, ?_⟩
  unfold cDef at h
  cases q : c (enter N.length xs) s with
  | nx ρ s' =>
    rw [q] at h
    exact fun G' H' σ' x _ _ r' => h G' H' .non x.nc r'.toRelW ⟨fun _ => False, .sh .non, fun _ z => z.elim⟩
  | rt t s' =>
    rw [q] at h
    refine fun G' H' w x r' ⟨A, ro, hA⟩ => h G' H' w x.nc r' ⟨A, ro, fun a z => ?_⟩
    obtain ⟨h1, h2, h3, h4⟩ := hA a z
    refine ⟨?_, h1, h2, h3⟩
    rcases h4 with ⟨_, q⟩ | q
    · exact q.elim
    · exact q
  | exc cc n ρ s' =>
    rw [q] at h
    exact fun G' H' σ' d x _ _ r' e => hE _ _ _ _ (h G' H' d x.nc r'.toRelW e)
  | bk ρ s' => rw [q] at h; exact h.elim
  | ct ρ s' => rw [q] at h; exact h.elim
  | bad => rw [q] at h; exact h.elim

/-! ### 2. calls -/
variable {X : Cx} {E : WX}
/-- an exception of a callee is what this body wants of exceptions -/
def Pass (CX : CXT) (X : Cx) (E : WX) : Prop := ∀ (pins : List (Addr × Obj)) (σ : L2.St) (H : Hp) (s : Shared) (e : Value) (s' : Shared), Inv X pins σ H s → CX X.stack H s (fun cls d H' => E cls d σ H') e s' → X.xe e s'
theorem pass_0 : Pass CX0 X E := fun _ _ _ _ _ _ _ h => h.elim
theorem pass_L (tk : Takes X E) : Pass (L2.CX X.prog X.w) X E := fun _ _ _ _ e s' I c => tk e s' (XE.of_call I (fun _ _ _ h => h) c)
variable {CX : CXT} {k n : Nat} {f : Addr} {fd : FuncData} {ps : List Str} {sp : Sp} {x : Str} {p pos : Pos} {e : Expr} {es : List Expr} {F : Fv W} {fs : Sm W (List Val)}
theorem run_fnV {pins : List (Addr × Obj)} {σ : L2.St} {H : Hp} {s : Shared} {Q : VK} {us : List Value} {vs : List V} (F : FnOk X.prog X.w X.K X.mg X.base CX k f fd ps sp) (hr : Room k X.A) (hb : Binds X.K fd ps []) (hx : Pass CX X E)
    (I : Inv X pins σ H s) (r : Vals vs us) (h : sp vs H Q (fun cls d H' => E cls d σ H')) : wpAny (model X.prog X.w) X.A (call (.ref f) us) (EP X pins σ Q) X.xe s := by
  have hl : (us ++ []).length = ps.length := by rw [List.append_nil, ← r.length]; exact F.len _ _ _ _ h
  refine wpAny_call (codeAny_mono (F.run X.A X.stack s H ⟨us, []⟩ us vs Q (fun cls d H' => E cls d σ H') hr I.env0 (by have := hb s us I.kIn hl; rw [List.append_nil] at this; exact this) r h) fun r s' hq => ?_)
  cases r with
  | error e => exact hx pins σ H s e s' I hq
  | ok fl =>
    cases fl with
    | ret u => exact I.after hq
    | next => exact False.elim hq
    | brk => exact False.elim hq
    | cont => exact False.elim hq
def tCallV (sp : Sp) (E : WX) (t : TA) : TE := fun σ H Q => t σ H fun vs H1 => sp vs H1 Q (fun cls d H' => E cls d σ H')
theorem pe_callVL {t : TA} (F : FnOk X.prog X.w X.K X.mg X.base CX k f fd ps sp) (hr : Room k X.A) (hg : Gl X x) (hm : X.mg x = some (.ref f)) (hk : PySem.W.keepIn X.K (.ref f) = true) (hb : Binds X.K fd ps []) (hx : Pass CX X E)
    (ha : PA X (e :: es) t) (hdb : (x == ("__debug__" : Str)) = false := by decide) (he : starEach (e :: es) X.env = (false, eval e X.env) :: starEach es X.env := by rfl) (hpl : (backTo pos (starEach es X.env)).any (·.1) = false := by rfl) :
    PE X (.Call (.Name x p) (e :: es) [] pos) (tCallV sp E t) := by
  refine ⟨fun pins s σ H Q I h => ?_⟩
  refine wpAny_Call_Name_kw (ld_glob I hg hm ?_ hdb)
  refine PySem.W.callWith_K (h₀ := X.base) I.ok.mod.kin hk (thn (ha.run pos pins s σ H _ I h) fun us s1 ⟨vs, H1, I1, r, q⟩ => ⟨I1.kIn, ?_⟩) he hpl
  exact run_fnV F hr hb hx I1 r q
theorem pe_callVL0 (F : FnOk X.prog X.w X.K X.mg X.base CX k f fd ps sp) (hr : Room k X.A) (hg : Gl X x) (hm : X.mg x = some (.ref f)) (hk : PySem.W.keepIn X.K (.ref f) = true) (hb : Binds X.K fd ps []) (hx : Pass CX X E)
    (hdb : (x == ("__debug__" : Str)) = false := by decide) : PE X (.Call (.Name x p) [] [] pos) (tCallV sp E tNil) := by
  refine ⟨fun pins s σ H Q I h => ?_⟩
  refine wpAny_Call_Name_kw (ld_glob I hg hm ?_ hdb)
  exact PySem.W.callWith_K0 I.kIn hk (run_fnV (us := []) F hr hb hx I .nil h)
def fCall (n : Nat) (F : Fv W) (fs : Sm W (List Val)) : Sm W OT := fun ρ s => (fs ρ s).bind fun xs s1 => if xs.length = n then F xs s1 else .bad
theorem Nc.nx {G G' : Gh} {H H' : Hp} (x : Nc G G' H H') : Nx G { G' with ad := G.ad } H H' := ⟨x.sub, x.keep, x.there, rfl, x.fp, x.fz⟩
theorem call_run {G : Gh} {ρ : En} {s : W.S} {σ : L2.St} {H H0 : Hp} {Q : VK} {vs : List V} {xs : List Val} (h0 : ∀ a, H a = none → H0 a = none) (r : Rel W K G ρ s σ H) (rs : Reps K G.F vs xs) (h : Pst W K E (pF K H0) G ρ σ H (if xs.length = n then F xs s else .bad) Q) : VSp W K n F vs H Q (fun cls d H' => E cls d σ H') := by
  split at h
  · rename_i hl
    refine ⟨G, s, xs, r.toRelW, rs, hl, ?_⟩
    cases q : F xs s with
    | bad => rw [q] at h; exact h.elim
    | ok t s' =>
      rw [q] at h
      rintro G' H' w x rw' ⟨A, ro, hA⟩
      have rw2 : RelW W { G' with ad := G.ad } s' H' := ⟨rw'.sub, rw'.tups, rw'.lk, rw'.wrl⟩
      refine h { G' with ad := G.ad } H' w x.nx (r.next x.nx rw2) ⟨A, ro, fun a z => ?_⟩
      obtain ⟨h1, h2, h3, h4⟩ := hA a z
      refine ⟨h0 a h1, h2, h3, h4, fun i y => ?_⟩
      obtain ⟨_, ⟨o, e, _⟩, _⟩ := r.own i a y
      rw [h1] at e; cases e
    | exc c n s' =>
      rw [q] at h
      rintro G' H' d x rw' e
      have rw2 : RelW W { G' with ad := G.ad } s' H' := ⟨rw'.sub, rw'.tups, rw'.lk, rw'.wrl⟩
      exact h { G' with ad := G.ad } H' d x.nx (r.next x.nx rw2) e
  · exact h.elim
theorem vf_call (FN : FnOk X.prog X.w X.K X.mg X.base CX k f fd ps (VSp W X.K n F)) (hr : Room k X.A) (hg : Gl X x) (hm : X.mg x = some (.ref f)) (hk : PySem.W.keepIn X.K (.ref f) = true) (hb : Binds X.K fd ps []) (hx : Pass CX X E)
    (ha : VA W X E (e :: es) fs) (hdb : (x == ("__debug__" : Str)) = false := by decide) (he : starEach (e :: es) X.env = (false, eval e X.env) :: starEach es X.env := by rfl) (hpl : (backTo pos (starEach es X.env)).any (·.1) = false := by rfl) :
    VF W X E (.Call (.Name x p) (e :: es) [] pos) (fCall n F fs) := PE.imp (pe_callVL FN hr hg hm hk hb hx ha hdb he hpl) fun σ H Q ⟨G, ρ, s, r, hq⟩ => by
  refine tG.mk r (Pst.mono (Pst.bind (P := pVs X.K H) hq) ?_)
  rintro w H1 ⟨G1, s1, xs, x1, r1, rs, h'⟩
  exact call_run x1.there r1 rs h'
theorem vf_call0 (FN : FnOk X.prog X.w X.K X.mg X.base CX k f fd ps (VSp W X.K n F)) (hr : Room k X.A) (hg : Gl X x) (hm : X.mg x = some (.ref f)) (hk : PySem.W.keepIn X.K (.ref f) = true) (hb : Binds X.K fd ps []) (hx : Pass CX X E)
    (hdb : (x == ("__debug__" : Str)) = false := by decide) : VF W X E (.Call (.Name x p) [] [] pos) (fCall n F eNil) := PE.imp (pe_callVL0 FN hr hg hm hk hb hx hdb) fun σ H Q ⟨G, ρ, s, r, hq⟩ => call_run (fun _ h => h) r .nil hq
end

/-! ### 3. a def of the text -/
section
variable {W : Wo} {P : Program} {w : World} {K : PySem.W.Frag} {mg : Str → Option Value} {base : Heap}
/-- no exception leaves it -/
def eN : WX := fun _ _ _ _ => False
abbrev cxV (P : Program) (w : World) (K : PySem.W.Frag) (mg : Str → Option Value) (base : Heap) (N : List Str) (qual : Str) (sc : Scope) (f : Addr) (cdv : Value) (A : Around) (outer : List Env) (s : Shared) (H : Hp) (EX : XK) : Cx :=
  (cxOf CX0 P w K mg base N qual sc f cdv A outer s H EX).nox
/-- .. of its semantics no exception comes -/
def R.calm {S α : Type} (r : R S α) : R S α := match r with
  | .exc _ _ _ => .bad
  | r => r
def cDef0 (n : Nat) (c : Cm W) : Fv W := fun xs s => (cDef n c xs s).calm
theorem Fun.okV {x qual : Str} {st : Stmt} {f : Addr} {fd : FuncData} {N ps : List Str} {k : Nat} {T : List Nat} {c : Cm W} (F : Fun K x qual st f fd) (S : FnScope N ps (defScope st)) (hN : ps.length ≤ N.length)
    (hbody : ∀ (cdv : Value) (A : Around) (outer : List Env) (s : Shared) (H : Hp) (EX : XK), Room k (A.deeper (envOfC qual (defScope st) s.heap.objs.size f cdv)) → VSs W (cxV P w K mg base N qual (defScope st) f cdv A outer s H EX) eN T (defBody st) c) :
    FnOk P w K mg base CX0 (k + 1) f fd ps (VSp W K ps.length (cDef0 N.length c)) := by
  refine F.ok S (fun vs H Q E h => ?_) (fun cdv A outer s H vs Q E hr h => ?_)
  · obtain ⟨G, s, xs, _, rs, hl, _⟩ := h
    rw [rs.length, hl]
  · obtain ⟨G, s0, xs, r, rs, hl, h⟩ := h
    refine ⟨_, hbody cdv A outer s H E hr, def_run (EX := fun _ _ _ => False) r rs (by omega) ?_ fun _ _ _ _ z => z⟩
    have h : PstC W K G H (cDef N.length c xs s0).calm Q E := h
    cases q : cDef N.length c xs s0 with
    | bad => rw [q] at h; exact h.elim
    | ok t s' => rw [q] at h; exact h
    | exc cc n s' => rw [q] at h; exact h.elim
end
end VL

/-! VL11: comprehensions; own dicts walked (locked). -/
namespace VL
open PySem PySem.Spec PyProof.Rows L2

/-! ### 1. a block's slots -/
def wipeE (ρ : En) : List Nat → En
  | [] => ρ
  | v :: vs => (wipeE ρ vs).set v none
theorem wipeE_length (ρ : En) : ∀ vs : List Nat, (wipeE ρ vs).length = ρ.length
  | [] => rfl
  | v :: vs => by unfold wipeE; rw [List.length_set, wipeE_length ρ vs]
theorem wipeE_get (ρ : En) (i : Nat) : ∀ vs : List Nat, (wipeE ρ vs)[i]? = if i ∈ vs ∧ i < ρ.length then some none else ρ[i]?
  | [] => by simp [wipeE]
  | v :: vs => by
    unfold wipeE
    by_cases h : v = i
    · subst h
      by_cases hl : v < ρ.length
      · rw [List.getElem?_set_self (by rw [wipeE_length]; exact hl), if_pos ⟨by simp, hl⟩]
      · rw [List.getElem?_eq_none (by rw [List.length_set, wipeE_length]; omega), if_neg fun z => hl z.2, List.getElem?_eq_none (by omega)]
    · rw [List.getElem?_set_ne h, wipeE_get ρ i vs]
      have : (i ∈ v :: vs) ↔ i ∈ vs := by simp [Ne.symm h]
      simp only [this]
theorem wipe_get (σ : L2.St) (i : Nat) : ∀ vs : List Nat, (wipe σ vs)[i]? = if i ∈ vs ∧ i < σ.length then some none else σ[i]?
  | [] => by simp [wipe]
  | v :: vs => by
    unfold wipe
    by_cases h : v = i
    · subst h
      by_cases hl : v < σ.length
      · rw [List.getElem?_set_self (by rw [wipe_length]; exact hl), if_pos ⟨by simp, hl⟩]
      · rw [List.getElem?_eq_none (by rw [List.length_set, wipe_length]; omega), if_neg fun z => hl z.2, List.getElem?_eq_none (by omega)]
    · rw [List.getElem?_set_ne h, wipe_get σ i vs]
      have : (i ∈ v :: vs) ↔ i ∈ vs := by simp [Ne.symm h]
      simp only [this]
theorem wipe_back {σ σ2 : L2.St} {vs : List Nat} (h : Off vs (wipe σ vs) σ2) : wipe σ2 vs = wipe σ vs := by
  have hl : σ2.length = σ.length := h.1.trans (wipe_length _ _)
  apply List.ext_getElem?
  intro i
  rw [wipe_get, hl]
  by_cases q : i ∈ vs
  · rw [wipe_get]
    by_cases q2 : i < σ.length
    · rw [if_pos ⟨q, q2⟩, if_pos ⟨q, q2⟩]
    · rw [if_neg fun z => q2 z.2, if_neg fun z => q2 z.2, List.getElem?_eq_none (by omega), List.getElem?_eq_none (by omega)]
  · rw [if_neg fun z => q z.1]
    exact h.2 i q
/-- what the slots vs own is nobody's for a while -/
def Gh.hide (G : Gh) (vs : List Nat) : Gh := { G with ad := fun j a => j ∉ vs ∧ G.ad j a }
section
variable {W : Wo} {K : PySem.W.Frag} {G G1 G3 G4 G5 : Gh} {ρ : En} {s s' : W.S} {σ : L2.St} {H H1 H3 H4 H5 : Hp} {vs : List Nat} {D : Addr} {o : HO}
theorem Rel.wipe (r : Rel W K G ρ s σ H) (vs : List Nat) : Rel W K (G.hide vs) (wipeE ρ vs) s (L2.wipe σ vs) H where
  sub := r.sub
  tups := r.tups
  lk := r.lk
  wrl := r.wrl
  len := by rw [wipeE_length, wipe_length]; exact r.len
  slot := fun i t e => by
    rw [wipeE_get] at e
    split at e
    · cases e
    · rename_i h
      obtain ⟨w, h1, h2⟩ := r.slot i t e
      have hi : i < ρ.length := (List.getElem?_eq_some_iff.mp e).1
      have hn : i ∉ vs := fun z => h ⟨z, hi⟩
      refine ⟨w, ?_, h2.mono (Sub.refl _) (fun a z => ⟨hn, z⟩) fun _ _ => rfl⟩
      rw [wipe_get, if_neg fun z => hn z.1]
      exact h1
  own := fun i a z => r.own i a z.2
  dis := fun i j a h z y => r.dis i j a h z.2 y.2
/-- out of the block again -/
theorem Ns.unhide (x : Ns vs (G.hide vs) G4 H H4) (y : Nx G4 G5 H4 H5) : Nx G { G5 with ad := G.ad } H H5 where
  sub := x.sub.trans y.sub
  keep := fun a o e n => y.keep a o (x.keep a o e n fun i hi z => z.1 hi) fun z => by
    rcases x.fp a z with q | q
    · exact n q
    · rw [e] at q; cases q
  there := fun a h => x.there a (y.there a h)
  ad := rfl
  fp := fun a z => by
    rcases y.fp a z with q | q
    · exact x.fp a q
    · exact .inr (x.there a q)
  fz := fun a o e => by
    have back : G4.F a = some o → G.F a = some o ∨ H a = none ∨ G.fp a ∨ ∃ ws, o = .tup ws := fun q => by
      rcases x.fz a o q with q | q | q | ⟨i, hi, q⟩ | q
      · exact .inl q
      · exact .inr (.inl q)
      · exact .inr (.inr (.inl q))
      · exact absurd hi q.1
      · exact .inr (.inr (.inr q))
    rcases y.fz a o e with q | q | q | q
    · exact back q
    · exact .inr (.inl (x.there a q))
    · rcases x.fp a q with q | q
      · exact .inr (.inr (.inl q))
      · exact .inr (.inl q)
    · exact .inr (.inr (.inr q))
/-- nobody's object stays nobody's -/
theorem Nx.bare (x : Nx G G1 H H1) (r : RelW W G1 s H1) (e : H D = some o) (ht : ∀ ws, o ≠ .tup ws) (hF : G.F D = none) (hf : ¬ G.fp D) : H1 D = some o ∧ G1.F D = none ∧ ¬ G1.fp D := by
  have e1 := x.keep D o e hf
  refine ⟨e1, ?_, fun z => ?_⟩
  · cases q : G1.F D with
    | none => rfl
    | some u =>
      have q2 := r.sub _ _ q
      rw [e1] at q2; cases q2
      rcases x.fz D _ q with z | z | z | ⟨ws, z⟩
      · rw [hF] at z; cases z
      · rw [e] at z; cases z
      · exact absurd z hf
      · exact absurd z (ht ws)
  · rcases x.fp D z with q | q
    · exact hf q
    · rw [e] at q; cases q
/-- nobody's object is changed -/
theorem Nx.lay (x : Nx G G1 H H1) (hD : H D = none) : Nx G G1 H (upd H1 D o) where
  sub := x.sub
  keep := fun a u e n => by
    rw [upd_ne (ne_of_none e hD)]; exact x.keep a u e n
  there := fun a h => by
    by_cases q : a = D
    · rw [q]; exact hD
    · rw [upd_ne q] at h; exact x.there a h
  ad := x.ad
  fp := x.fp
  fz := x.fz
theorem Rel.lay (r : Rel W K G ρ s σ H) (hF : G.F D = none) (hf : ¬ G.fp D) (ha : ∀ i, ¬ G.ad i D) (ht : ∀ ws, o ≠ .tup ws) : Rel W K G ρ s σ (upd H D o) where
  sub := fun a u e => by rw [upd_ne (ne_of_none e hF)]; exact r.sub a u e
  tups := fun a ws e => by
    by_cases q : a = D
    · rw [q, upd_same] at e; exact absurd (Option.some.inj e) (ht ws)
    · rw [upd_ne q] at e; exact r.tups a ws e
  lk := r.lk
  wrl := W.mono r.wrl (Sub.refl _) fun a z => ⟨upd_ne fun q => hf (q ▸ z), (W.own r.wrl z).1⟩
  len := r.len
  slot := fun i t e => by
    obtain ⟨w, h1, h2⟩ := r.slot i t e
    exact ⟨w, h1, h2.mono (Sub.refl _) (fun _ z => z) fun a z => upd_ne fun q => ha i (q ▸ z)⟩
  own := fun i a z => by
    obtain ⟨h1, h2, h3⟩ := r.own i a z
    refine ⟨h1, ?_, h3⟩
    have q : a ≠ D := fun q => ha i (by rw [← q]; exact z)
    rw [upd_ne q]; exact h2
  dis := r.dis
theorem RelW.reset {A : Nat → Addr → Prop} (r : RelW W G s H) : RelW W { G with ad := A } s H := ⟨r.sub, r.tups, r.lk, r.wrl⟩
end

/-! ### 2. [elt for target in iter if ..] -/
section
variable {W : Wo} {X : Cx} {E : WX} {U : List Nat}
def compS (ρ : En) (vs : List Nat) (p : Pu) (t : Sm W Bool) (f : Ev W) : List Val → List Val → W.S → R W.S OT
  | [], acc, s => .ok (.oL acc) s
  | x :: xs, acc, s => match p x (wipeE ρ vs) with
    | none => .bad
    | some ρ1 => match t ρ1 s with
      | .ok b s1 => if b = true then match f ρ1 s1 with
          | .ok v s2 => if acc.length < sizeLine then compS ρ vs p t f xs (acc ++ [v]) s2 else .bad
          | _ => .bad
        else compS ρ vs p t f xs acc s1
      | _ => .bad
def fLc (vs : List Nat) (it : Sm W (List Val)) (p : Pu) (t : Sm W Bool) (f : Ev W) : Sm W OT := fun ρ s => (it ρ s).bind fun xs s1 => compS ρ vs p t f xs [] s1
abbrev tVG (W : Wo) (K : PySem.W.Frag) (T : List Nat) (p : Pu) : TG := fun w σ H Q => ∃ G ρ s v ρ', Rel W K G ρ s σ H ∧ Rep K G.F w v ∧ p v ρ = some ρ' ∧
  ∀ G' σ', Ns T G G' H H → Off T ρ ρ' → Off T σ σ' → Rel W K G' ρ' s σ' H → Q σ' H
theorem lc_run {K : PySem.W.Frag} {vs : List Nat} {it : Sm W (List Val)} {p : Pu} {t : Sm W Bool} {f : Ev W} {σ : L2.St} {H : Hp} {Q : VK} (hq : tG W K E (pF K) (fLc vs it p t f) σ H Q) :
    tLc (fun σ H R => tG W K E (pI K U) it σ H R) (tVG W K vs p) (tG W K eN pT t) (tG W K eN (pV K) f) vs σ H Q := by
  obtain ⟨G0, ρ, s0, r0, hq⟩ := hq
  refine tG.mk r0 (Pst.mono (Pst.bind (P := pI K U H) hq) ?_)
  rintro J H1 ⟨G1, s1, xs, x1, r1, yl, h1⟩ D hD
  have dF : G1.F D = none := r1.toRelW.free hD
  have dA : ∀ i, ¬ G1.ad i D := fun i z => by
    obtain ⟨_, ⟨o, e, _⟩, _⟩ := r1.own i D z
    rw [hD] at e; cases e
  have dP : ¬ G1.fp D := fun z => by
    obtain ⟨_, ⟨o, e⟩, _⟩ := W.own r1.wrl z
    rw [hD] at e; cases e
  refine ⟨fun i m H' => m = xs.length - i ∧ i ≤ xs.length ∧ ∃ G' s' ws acc, Nx G1 G' H1 H' ∧ Rel W K G' ρ s' σ H' ∧ H' D = some (.lst ws) ∧ Reps K G'.F ws acc ∧ G'.F D = none ∧ ¬ G'.fp D ∧
    Pst W K E (pF K H) G1 ρ σ H1 (compS ρ vs p t f (xs.drop i) acc s') Q, ⟨xs.length, by simp, Nat.zero_le _, G1, s1, [], [], (Nx.refl _ _).lay hD, r1.lay dF dP dA (nd_lst _).2, upd_same, .nil, dF, dP, by rw [List.drop_zero]; exact h1⟩, ?_⟩
  rintro i m H' ⟨rfl, hile, G', s', ws, acc, x', r', hD', rs, dF', dP', h'⟩
  have pins : ∀ a i, i ∈ U → G1.ad i a → H' a = H1 a := fun a i hi z => by
    obtain ⟨q1, ⟨o, q2, _⟩, q3⟩ := r1.own i a z
    rw [q2]
    exact x'.keep a o q2 q3
  have Y := yl G'.F H' x'.sub r'.sub r'.tups pins i
  by_cases hlt : i < xs.length
  · refine .inr ?_
    have ex : xs[i]? = some xs[i] := by simp [hlt]
    obtain ⟨hgo, hy⟩ := Y.1 _ ex
    rw [List.drop_eq_getElem_cons hlt] at h'
    unfold compS at h'
    refine ⟨hgo, fun H2 => ∃ m', m' < xs.length - i ∧ (m' = xs.length - (i + 1) ∧ i + 1 ≤ xs.length ∧ ∃ G' s' ws acc, Nx G1 G' H1 H2 ∧ Rel W K G' ρ s' σ H2 ∧ H2 D = some (.lst ws) ∧ Reps K G'.F ws acc ∧ G'.F D = none ∧ ¬ G'.fp D ∧
      Pst W K E (pF K H) G1 ρ σ H1 (compS ρ vs p t f (xs.drop (i + 1)) acc s') Q), fun H2 z => z, fun x H3 y => ?_⟩
    obtain ⟨G3, x3, r3, rp3⟩ : ∃ G3, Nx G' G3 H' H3 ∧ Rel W K G3 ρ s' σ H3 ∧ Rep K G3.F x xs[i] := by
      rcases hy x H3 y with ⟨rfl, rp⟩ | ⟨q, ws, vs, hq, rfl, rfl, ev, rs⟩
      · exact ⟨G', Nx.refl _ _, r', rp⟩
      · obtain ⟨hF, hH⟩ := r'.toRelW.fresh (o := .tup ws) hq (nd_tup ws)
        exact ⟨_, hF, r'.next hF hH, by rw [ev]; exact .tup upd_same (rs.mono (Sub.upd (r'.toRelW.free hq)))⟩
    have x13 := x'.trans x3
    obtain ⟨hD3, dF3, dP3⟩ := x3.bare r3.toRelW hD' (nd_lst _).2 dF' dP'
    have r3w := r3.wipe vs
    cases ep : p xs[i] (wipeE ρ vs) with
    | none => rw [ep] at h'; exact h'.elim
    | some ρ1 =>
      rw [ep] at h'
      refine ⟨G3.hide vs, wipeE ρ vs, s', xs[i], ρ1, r3w, rp3, ep, fun G4 σ4 x4 o4 o4' r4 => ⟨wipe_back o4', tG.mk (P := fun _ => pT H3) r4 ?_⟩⟩
      -- the turn's end
      have fin : ∀ {G5 : Gh} {H5 : Hp} {s5 : W.S} {ws5 : List V} {acc5 : List Val}, Nx G4 G5 H3 H5 → RelW W G5 s5 H5 → ∀ {H6 : Hp}, (H6 = H5 ∧ ws5 = ws ∨ H6 = upd H5 D (.lst ws5)) → Reps K G5.F ws5 acc5 →
          Pst W K E (pF K H) G1 ρ σ H1 (compS ρ vs p t f (xs.drop (i + 1)) acc5 s5) Q →
          ∃ m', m' < xs.length - i ∧ (m' = xs.length - (i + 1) ∧ i + 1 ≤ xs.length ∧ ∃ G' s' ws acc, Nx G1 G' H1 H6 ∧ Rel W K G' ρ s' σ H6 ∧ H6 D = some (.lst ws) ∧ Reps K G'.F ws acc ∧ G'.F D = none ∧ ¬ G'.fp D ∧
            Pst W K E (pF K H) G1 ρ σ H1 (compS ρ vs p t f (xs.drop (i + 1)) acc s') Q) := by
        intro G5 H5 s5 ws5 acc5 x5 rw5 H6 h6 rs5 hp
        have x35 := x4.unhide x5
        have r5 := r3.next x35 rw5.reset
        have x15 := x13.trans x35
        obtain ⟨hD5, dF5, dP5⟩ := x35.bare r5.toRelW hD3 (nd_lst _).2 dF3 dP3
        refine ⟨_, by omega, rfl, hlt, { G5 with ad := G3.ad }, s5, ws5, acc5, ?_⟩
        rcases h6 with ⟨rfl, rfl⟩ | rfl
        · exact ⟨x15, r5, hD5, rs5, dF5, dP5, hp⟩
        · refine ⟨x15.lay hD, r5.lay dF5 dP5 (fun j => ?_) (nd_lst _).2, upd_same, rs5, dF5, dP5, hp⟩
          show ¬ G3.ad j D
          rw [x13.ad]; exact dA j
      dsimp only at h'
      cases et : t ρ1 s' with
      | bad => rw [et] at h'; exact h'.elim
      | exc c n s2 => rw [et] at h'; exact h'.elim
      | ok b s2 =>
        rw [et] at h'
        rintro G5 H5 b' x5 r5 rfl
        cases b' with
        | false => exact fin x5 r5.toRelW (.inl ⟨rfl, rfl⟩) (rs.mono (x3.sub.trans (x4.sub.trans x5.sub))) h'
        | true =>
          dsimp only at h'
          rw [if_pos rfl] at h' ⊢
          refine tG.mk (P := fun _ => pV K H5) r5 ?_
          cases ef : f ρ1 s2 with
          | bad => rw [ef] at h'; exact h'.elim
          | exc c n s3 => rw [ef] at h'; exact h'.elim
          | ok v s3 =>
            rw [ef] at h'
            rintro G6 H6 y6 x6 r6 rp6
            have rp6 : Rep K G6.F y6 v := rp6
            dsimp only at h'
            split at h'
            · rename_i hz
              have x36 := x4.unhide (x5.trans x6)
              obtain ⟨hD6, _, _⟩ := x36.bare (r3.next x36 r6.toRelW.reset).toRelW hD3 (nd_lst _).2 dF3 dP3
              refine ⟨ws, hD6, by rw [rs.length]; exact hz, fin (x5.trans x6) r6.toRelW (.inr rfl) ((rs.mono (x3.sub.trans (x4.sub.trans (x5.trans x6).sub))).append (.cons rp6 .nil)) h'⟩
            · exact h'.elim
  · have e : i = xs.length := by omega
    subst e
    refine .inl ⟨Y.2 (Nat.le_refl _), ?_⟩
    rw [List.drop_length] at h'
    refine h' G' H' (.ref D) x' r' ⟨fun a => a = D, .oL hD' rfl rs, ?_⟩
    rintro a rfl
    exact ⟨x1.there a hD, dF', ⟨_, hD', (nd_lst _).2⟩, dP', fun j => by rw [x'.ad]; exact dA j⟩

/-- the tests of a clause -/
def VTs (W : Wo) (X : Cx) (ifs : List Expr) (t : Sm W Bool) : Prop := PTs X ifs (tG W X.K eN pT t)
def tTrue : Sm W Bool := fun _ s => .ok true s
theorem PTs.imp {ifs : List Expr} {t t' : TT} (h : PTs X ifs t) (i : ∀ σ H Q, t' σ H Q → t σ H Q) : PTs X ifs t' := ⟨fun pins s σ H Q I z => h.run pins s σ H Q I (i σ H Q z)⟩
theorem vts_nil : VTs W X [] tTrue := PTs.imp pts_nil fun σ H Q ⟨G, ρ, s, r, h⟩ => Pst.done (P := pT H) r h rfl
theorem vts_one {c : Expr} {t : Sm W Bool} (h : VT W X eN c t) : VTs W X [c] t := pts_one h
variable {elt tg iter : Expr} {ifs : List Expr} {scope : Scope} {own : List (Str × Nat)} {pos : Pos} {it : Sm W (List Val)} {p : Pu} {t : Sm W Bool} {f : Ev W}
theorem vf_lc {vs : List Nat} (hc : X.calm = true) (hN : X.N.Nodup) (ok : BlkOk X.N X.env.scope scope own) (hvs : own.map (·.2) = vs) (hi : VI W X E U tg iter it)
    (hg : ∀ (s : Shared) (H : Hp) (C : Addr) (cl : List (Str × Addr)) (fp : List Addr), VG W (X.blk s H scope (compEnvC scope cl C X.env) fp) vs tg p)
    (ht : ∀ (s : Shared) (H : Hp) (C : Addr) (cl : List (Str × Addr)) (fp : List Addr), VTs W (X.blk s H scope (compEnvC scope cl C X.env) fp) ifs t)
    (he : ∀ (s : Shared) (H : Hp) (C : Addr) (cl : List (Str × Addr)) (fp : List Addr), VE W (X.blk s H scope (compEnvC scope cl C X.env) fp) eN elt f) (hs : ∀ x, foldedSetIterable iter X.env x = pure x := by intro _; rfl) :
    VF W X E (.ListComp elt [⟨tg, iter, ifs, 0⟩] scope pos) (fLc vs it p t f) := by
  subst hvs
  exact PE.imp (pe_lc (g := tVG W X.K (own.map fun x : Str × Nat => x.2) p) (tt := tG W X.K eN pT t) (te := tG W X.K eN (pV X.K) f) hc hN hi ok hg ht he hs) fun _ _ _ h => lc_run h
/-- name = [..] -/
theorem vs_setLc {vs : List Nat} {T : List Nat} {i : Nat} {y : Str} {py spos : Pos} (hi' : i ∈ T) (hc : X.calm = true) (hN : X.N.Nodup) (ok : BlkOk X.N X.env.scope scope own) (hvs : own.map (·.2) = vs) (hi : VI W X E U tg iter it)
    (hg : ∀ (s : Shared) (H : Hp) (C : Addr) (cl : List (Str × Addr)) (fp : List Addr), VG W (X.blk s H scope (compEnvC scope cl C X.env) fp) vs tg p)
    (ht : ∀ (s : Shared) (H : Hp) (C : Addr) (cl : List (Str × Addr)) (fp : List Addr), VTs W (X.blk s H scope (compEnvC scope cl C X.env) fp) ifs t)
    (he : ∀ (s : Shared) (H : Hp) (C : Addr) (cl : List (Str × Addr)) (fp : List Addr), VE W (X.blk s H scope (compEnvC scope cl C X.env) fp) eN elt f)
    (hyl : X.env.scope.names.lookup y = some .local) (hl : (py.line == pos.line) = true) (ha : (scope.names.any fun (n, k) => n == y && (k == .local || k == .cell)) = false) (hy : X.N[i]? = some y := by rfl) (hk : X.env.scope.kind = .function := by rfl)
    (hs : ∀ x, foldedSetIterable iter X.env x = pure x := by intro _; rfl) :
    VS W X E T (.Assign [.Name y py] (.ListComp elt [⟨tg, iter, ifs, 0⟩] scope pos) spos) (cSetF i (fLc vs it p t f)) := by
  subst hvs
  exact PS.imp (ps_setLc (g := tVG W X.K (own.map fun x : Str × Nat => x.2) p) (tt := tG W X.K eN pT t) (te := tG W X.K eN (pV X.K) f) hc hN hy hyl (sw_true hk hyl hl ha) hi ok hg ht he hs) fun D σ H ⟨G, ρ, s, r, h⟩ => by
    refine lc_run (E := E) (tG.mk (f := fLc (own.map (·.2)) it p t f) (P := pF X.K) r (Pst.mono (PstS.goAt (P := pF X.K H) h) ?_))
    rintro w H1 ⟨G1, s1, t, x1, r1, ⟨A, ro, hA⟩, h1⟩
    exact h1 (G1.put i A) H1 _ (Ns.put (x1.ns T) hi' fun a z => .inr (hA a z).1) (Off.set hi') (Off.set hi') (r1.put ro fun a z => ⟨(hA a z).2.1, (hA a z).2.2.1, (hA a z).2.2.2.1, fun j _ => (hA a z).2.2.2.2 j⟩)
end
end VL

/-! VL12: dict comprehensions, keys ints and texts or tuples of them. -/
namespace VL
open PySem PySem.Spec PyProof.Rows L2
section
variable {X : Cx} {pins : List (Addr × Obj)} {σ : L2.St} {H H6 : Hp} {s : Shared} {Er : Value → Shared → Prop}
/-- D[y] = z by a comprehension -/
theorem dset_run {D : Addr} {y z : V} {uk uv : Value} {Q : Unit → Shared → Prop} (hu : X.A.units < cLine) (I : Inv X pins σ H s) (g : DPut H D y z H6) (ry : RelV y uk) (rz : RelV z uv) (hq : ∀ s', Inv X pins σ H6 s' → Q () s') :
    wpAny (model X.prog X.w) X.A (dictSet D uk uv) Q Er s := by
  rcases g with ⟨l, k, eD, ey, hl, e6⟩ | ⟨l, ks, b, eD, ey, eb, hl, e6⟩
  · subst ey e6
    obtain ⟨hz, hs, vs, kv, dd⟩ := dk_of I.hok eD
    have lz : vs.length ≤ sizeLine := by rw [← kv.length]; exact hz
    have lp : (putK l k z).length ≤ sizeLine := by have := length_putK l k z; omega
    refine wpAny_dictSet_pairs (hsz := lz) (kV_is ry) dd fun h1 d1 sb => hq _ ?_
    obtain ⟨ob, es, ep, ho, _⟩ := id d1
    exact d_write I (by rw [eD]; trivial) sb ⟨ob, ho⟩ (dk_new lp hs (kv.put k rz) d1)
  · subst ey e6
    cases (show uk = Value.ref b from ry)
    obtain ⟨hz, hs, vs, kt, dd⟩ := dt_of I.hok eD
    have lz : vs.length ≤ sizeLine := by rw [← Paired.length kt]; exact hz
    have lp : (putK l ks z).length ≤ sizeLine := by have := length_putK l ks z; omega
    refine wpAny_dictSet_heap (knd := tupleKind (mixKind X.prog X.w)) (hsz := lz) hu (key_of I.hok eb) dd fun h1 d1 sb => hq _ ?_
    obtain ⟨ob, es, ep, ho, g2, g3, g4, _, g5⟩ := d1
    refine d_write I (by rw [eD]; trivial) sb ⟨ob, ho⟩ ⟨lp, hs, _, (kt.put ks eb rz).keeps fun c ys ec => ?_, ob, es, ep, ho, g2, g3, g4, g5⟩
    have nc : c ≠ D := ne_of ec eD (fun z => (by cases z))
    rw [upd_ne nc]
    exact ec
/-- {k: v for target in iter if ..}: o0 the new dict -/
def tDcV (o0 : HO) (wi : TI) (g : TG) (tt : TT) (tk tv : TE) (vs : List Nat) : TE := fun σ H Q => wi σ H fun J Ha => ∀ D, Ha D = none → ∃ W : Nat → Nat → Hp → Prop, (∃ m, W 0 m (upd Ha D o0)) ∧ ∀ i m H, W i m H →
  (J.stop i H ∧ Q (.ref D) H) ∨ (J.go i H ∧ ∃ N : Hp → Prop, (∀ H', N H' → ∃ m', m' < m ∧ W (i + 1) m' H') ∧ ∀ x H', J.yld i H x H' → g x (wipe σ vs) H' fun σ2 H2 => wipe σ2 vs = wipe σ vs ∧ tt σ2 H2 fun b H3 =>
    if b = true then tk σ2 H3 fun y H4 => tv σ2 H4 fun z H5 => ∃ H6, DPut H5 D y z H6 ∧ N H6 else N H3)
/-- a new dict of either kind -/
def New0 (o0 : HO) : Prop := o0 = .dK [] ∨ o0 = .dT []
theorem New0.ok {o0 : HO} (n : New0 o0) {P : Program} {w : World} {H : Hp} (h : Heap) (hb : sysModules < h.objs.size) : ObjOk P w H (h.push { cls := .type "dict", data := .dict #[] }) h.objs.size o0 := by
  rcases n with rfl | rfl
  · exact dk_empty h hb
  · exact dt_empty h hb
theorem dcV_core {Q : VK} {kx vx tg iter : Expr} {ifs : List Expr} {scope : Scope} {own : List (Str × Nat)} {pos pos' : Pos} {o0 : HO} {wi : TI} {g : TG} {tt : TT} {tk tv : TE} {use : Option (Value → Sem Unit)} {Qf : Value → Shared → Prop}
    (n0 : New0 o0) (hu : X.A.units < cLine) (calm : X.calm = true) (nd : X.N.Nodup) (I : Inv X pins σ H s) (hi : PI X tg iter wi) (bo : BlkOk X.N X.env.scope scope own)
    (bg : ∀ (s : Shared) (H : Hp) (C : Addr) (cl : List (Str × Addr)) (fp : List Addr), PG (X.blk s H scope (compEnvC scope cl C X.env) fp) tg g)
    (bt : ∀ (s : Shared) (H : Hp) (C : Addr) (cl : List (Str × Addr)) (fp : List Addr), PTs (X.blk s H scope (compEnvC scope cl C X.env) fp) ifs tt)
    (bk : ∀ (s : Shared) (H : Hp) (C : Addr) (cl : List (Str × Addr)) (fp : List Addr), PE (X.blk s H scope (compEnvC scope cl C X.env) fp) kx tk)
    (bv : ∀ (s : Shared) (H : Hp) (C : Addr) (cl : List (Str × Addr)) (fp : List Addr), PE (X.blk s H scope (compEnvC scope cl C X.env) fp) vx tv) (fs : ∀ x, foldedSetIterable iter X.env x = pure x)
    (h : tDcV o0 wi g tt tk tv (own.map (·.2)) σ H Q)
    (out : ∀ D C s' m H', Inv X pins σ H' s' → Q (.ref D) H' → s'.heap.Ns C m → FpOk X pins H' C → compPost (model X.prog X.w) X.A X.xe use Qf (.ref D) C (.ok .next) s') :
    wpAny (model X.prog X.w) X.A (comprehension (.DictComp kx vx [⟨tg, iter, ifs, 0⟩] scope pos) scope X.env pos' newDict false (eval iter X.env) use) Qf X.xe s := by
  have cells : ∀ y ∈ scope.names, y.2 = .free → ∃ c, X.env.cells.lookup y.1 = some c := fun y hy e => (bo.free y hy e).elim (fun k => I.ok.has _ (.inl k)) fun k => I.ok.has _ (.inr k)
  refine wpAny_comprehension_free (use := use) rfl fs (closure_ok cells) bo.kind (fun y hy e => by rw [bo.uniq y hy, e])
    (thn (hi.run pins s σ H _ I h) fun itx sa ha => thn ha fun itv sb hb => ?_)
  obtain ⟨it, fp, tn, J, Hb, rfl, Ib, T, st, fpo, rest⟩ := hb
  refine wpAny_newObj_type (newEnv_comp ?_)
  generalize eD : sb.heap.objs.size = D
  have nD : Hb D = none := Ib.hok.fresh (Nat.le_of_eq eD)
  obtain ⟨W, ⟨m0, w0⟩, turn⟩ := rest D nD
  generalize esc : ({ sb with heap := sb.heap.push { cls := .type "dict", data := .dict #[] } } : Shared) = sc
  have Ic : Inv X pins σ (upd Hb D o0) sc := by
    rw [← esc]
    refine Ib.laid (t' := sb.toks) (fun b o e => Heap.get?_push_of_some _ e) (Nat.le_of_eq eD) ?_
    rw [← eD]
    exact n0.ok sb.heap Ib.big
  have hsc : sc.heap = sb.heap.push { cls := .type "dict", data := .dict #[] } := by rw [← esc]
  have lt : ∀ b ∈ fp, b < sb.heap.objs.size := fun b hb => by
    obtain ⟨o, e, _⟩ := T.obj _ _ st b hb
    exact Heap.lt_size e
  have fpc : ∀ b ∈ fp, FpOk X pins (upd Hb D o0) b ∧ b < sc.heap.objs.size := fun b hb => by
    have l := lt b hb
    have ne : b ≠ D := by rw [← eD]; exact Nat.ne_of_lt l
    exact ⟨⟨by rw [upd_ne ne]; exact (fpo b hb).1, (fpo b hb).2⟩, by rw [hsc, Heap.size_push]; exact Nat.lt_succ_of_lt l⟩
  have stc : tn 0 sc.heap := T.keep _ _ _ st fun b _ o e => by rw [hsc]; exact Heap.get?_push_of_some _ e
  have Ik := block_start Ic bo nd fpc
  have pg := bg sc (upd Hb D o0) sc.heap.objs.size (cellsFrom (sc.heap.objs.size + 1) scope.names (cloFrom X.env.cells scope.names [])) fp
  have pt := bt sc (upd Hb D o0) sc.heap.objs.size (cellsFrom (sc.heap.objs.size + 1) scope.names (cloFrom X.env.cells scope.names [])) fp
  have pk := bk sc (upd Hb D o0) sc.heap.objs.size (cellsFrom (sc.heap.objs.size + 1) scope.names (cloFrom X.env.cells scope.names [])) fp
  have pv := bv sc (upd Hb D o0) sc.heap.objs.size (cellsFrom (sc.heap.objs.size + 1) scope.names (cloFrom X.env.cells scope.names [])) fp
  show codeAny _ _ (.compStart (.DictComp kx vx [⟨tg, iter, ifs, 0⟩] scope pos) 0 (.ref it) (.ref D) (compEnvC scope (cellsFrom (sc.heap.objs.size + 1) scope.names (cloFrom X.env.cells scope.names [])) sc.heap.objs.size X.env)) (compPost (model X.prog X.w) X.A X.xe use Qf (.ref D) sc.heap.objs.size) { sc with heap := pushCells (sc.heap.push { cls := .type "dict", data := .dict #[] }) scope.names }
  have fpn : ∀ b ∈ fp, (upd Hb D o0) b = none := fun b hb => (fpc b hb).1.1
  generalize ecv : compEnvC scope (cellsFrom (sc.heap.objs.size + 1) scope.names (cloFrom X.env.cells scope.names [])) sc.heap.objs.size X.env = cv at Ik pg pt pk pv ⊢
  have lcv : cv.locals = sc.heap.objs.size := by subst ecv; rfl
  generalize eHc : upd Hb D o0 = Hc at Ic Ik pg pt pk pv w0 fpn fpc
  generalize esd : ({ sc with heap := pushCells (sc.heap.push { cls := .type "dict", data := .dict #[] }) scope.names } : Shared) = sd at Ik ⊢
  have std : tn 0 sd.heap := T.keep _ _ _ stc fun b _ o e => by rw [← esd]; exact pushCells_keeps _ _ _ _ (Heap.get?_push_of_some _ e)
  have fpk : ∀ {τ : L2.St} {Hx : Hp} {sx : Shared}, Inv (X.blk sc Hc scope cv fp) [] τ Hx sx → (∀ b ∈ fp, Hx b = none) → ∀ b ∈ fp, FpOk (X.blk sc Hc scope cv fp) [] Hx b := fun {τ Hx sx} Ix hn b hb =>
    ⟨hn b hb, (Ix.ok.exf b hb).1, Ix.ok.exfs b hb, .inl hb, fun x c e => (Ix.ok.exf b hb).2 x c e, fun p hp => absurd (show p ∈ ([] : List (Addr × Obj)) ++ [] from hp) (by simp)⟩
  have loop : codeAny (model X.prog X.w) X.A (.compLoop (.DictComp kx vx [⟨tg, iter, ifs, 0⟩] scope pos) 0 (.ref it) (.ref D) cv) (compPost (model X.prog X.w) X.A X.xe use Qf (.ref D) sc.heap.objs.size) sd := by
    refine compLoop_anyD (fun n sx => ∃ i Hx, Inv (X.blk sc Hc scope cv fp) [] (wipe σ (own.map (·.2))) Hx sx ∧ tn i sx.heap ∧ (∀ b ∈ fp, Hx b = none) ∧ W i n Hx) ?_ m0 ⟨0, Hc, Ik, std, fpn, w0⟩
    rintro n se ⟨i, He, Ie, ste, fne, we⟩
    rcases turn i n He we with ⟨stop, qq⟩ | ⟨go, N, hN, step⟩
    · refine thnF (T.done (X.blk sc Hc scope cv fp) rfl rfl rfl calm i [] se _ He (fun _ _ => False) Ie (fpk Ie fne) ste stop) fun r sf ⟨hr, If⟩ => ?_
      subst hr
      have Ig : Inv X pins σ He sf := Ic.call' (ch := fp) If.os If.base If.hok If.bare fun b hb => ⟨(fpc b hb).1.2.2.2.1, (fpc b hb).1.2.1, (fpc b hb).1.2.2.2.2.1, (fpc b hb).1.2.2.2.2.2⟩
      have nC : He sc.heap.objs.size = none := by
        have z : He cv.locals = none := If.free
        rwa [lcv] at z
      obtain ⟨m, hn, _⟩ := If.loc
      have hn : sf.heap.Ns cv.locals m := hn
      rw [lcv] at hn
      exact out D sc.heap.objs.size sf m He Ig qq hn (Ic.fpOk (Nat.le_refl _) nC)
    · refine thnF (T.item (X.blk sc Hc scope cv fp) rfl rfl rfl calm i [] se _ He (fun _ _ => False) Ie (fpk Ie fne) ste go) fun r sf ⟨u, hr, hf⟩ => ?_
      subst hr
      refine thnF hf fun _ sg ⟨x, Hg, Ig, rg, yg, stg, fng⟩ => ?_
      have Ih := Ig.pinned (fpk Ig fng) (T.obj _ _ stg)
      refine thnF (pg.run _ sg _ Hg x u _ Ih rg (step x Hg yg)) fun _ si ⟨τ, Hi, Ii, hw, qi⟩ => ?_
      refine thnF (pt.run _ si τ Hi _ Ii qi) fun b sj ⟨Hj, Ij, qj⟩ => ?_
      have fin : ∀ {sx : Shared} {Hx : Hp}, Inv (X.blk sc Hc scope cv fp) ([] ++ pinsAt fp sg.heap) τ Hx sx → N Hx → ∃ m, m < n ∧ ∃ i Hx, Inv (X.blk sc Hc scope cv fp) [] (wipe σ (own.map (·.2))) Hx sx ∧ tn i sx.heap ∧ (∀ b ∈ fp, Hx b = none) ∧ W i m Hx := fun {sx Hx} Ix nx => by
        obtain ⟨m', hm, w'⟩ := hN Hx nx
        have pin : ∀ b ∈ fp, ∀ o, sg.heap.get? b = some o → sx.heap.get? b = some o ∧ Hx b = none := fun b hb o e =>
          let z := Ix.pin (b, o) (List.mem_append_right _ (List.mem_append_right _ (mem_pinsAt hb e)))
          ⟨z.1, z.2.1⟩
        have hl : (wipe σ (own.map (·.2))).length = τ.length := by rw [← hw, wipe_length]
        refine ⟨m', hm, i + 1, Hx, (Ix.unpinned (pins := [])).weak hl (fun j v e => ?_), T.keep _ _ _ stg fun b hb o e => (pin b hb o e).1, fun b hb => ?_, w'⟩
        · rw [← hw] at e
          exact (wipe_some e).1
        · obtain ⟨o, e, _⟩ := T.obj _ _ stg b hb
          exact (pin b hb o e).2
      cases b with
      | false =>
        simp only [Bool.false_eq_true, if_false] at qj ⊢
        exact fin Ij qj
      | true =>
        simp only [if_true] at qj ⊢
        refine thnF (pk.run _ sj τ Hj _ Ij qj) fun uk sk ⟨yk, Hk, Ik2, rk, qk⟩ => ?_
        refine thnF (pv.run _ sk τ Hk _ Ik2 qk) fun uv sl ⟨yv, Hl, Il, rl, Hm, dp, nx⟩ => ?_
        exact dset_run (X := X.blk sc Hc scope cv fp) hu Il dp rk rl fun sm Im => fin Im nx
  exact codeAny_compStart_dict loop (T.self X.A 0 _ _ _ std loop)
variable {kx vx tg iter : Expr} {ifs : List Expr} {scope : Scope} {own : List (Str × Nat)} {pos : Pos} {o0 : HO} {wi : TI} {g : TG} {tt : TT} {tk tv : TE}
theorem pe_dcV (n0 : New0 o0) (hu : X.A.units < cLine) (calm : X.calm = true) (nd : X.N.Nodup) (hi : PI X tg iter wi) (bo : BlkOk X.N X.env.scope scope own)
    (bg : ∀ (s : Shared) (H : Hp) (C : Addr) (cl : List (Str × Addr)) (fp : List Addr), PG (X.blk s H scope (compEnvC scope cl C X.env) fp) tg g)
    (bt : ∀ (s : Shared) (H : Hp) (C : Addr) (cl : List (Str × Addr)) (fp : List Addr), PTs (X.blk s H scope (compEnvC scope cl C X.env) fp) ifs tt)
    (bk : ∀ (s : Shared) (H : Hp) (C : Addr) (cl : List (Str × Addr)) (fp : List Addr), PE (X.blk s H scope (compEnvC scope cl C X.env) fp) kx tk)
    (bv : ∀ (s : Shared) (H : Hp) (C : Addr) (cl : List (Str × Addr)) (fp : List Addr), PE (X.blk s H scope (compEnvC scope cl C X.env) fp) vx tv) (fs : ∀ x, foldedSetIterable iter X.env x = pure x) :
    PE X (.DictComp kx vx [⟨tg, iter, ifs, 0⟩] scope pos) (tDcV o0 wi g tt tk tv (own.map (·.2))) := by
  refine ⟨fun pins s σ H Q I h => ?_⟩
  rw [arm_eval_DictComp]
  refine dcV_core n0 hu calm nd I hi bo bg bt bk bv fs h fun D C s' m H' I' q hn f => ⟨m, hn, fun h'' sb => ?_⟩
  obtain ⟨c0, c1, c2, c3, c4, c5⟩ := f
  exact ⟨.ref D, H', I'.turned (t' := s'.toks) (fun b o hb e => (sb.2 b hb).trans e) c0 c1 c3 c4 c5, rfl, q⟩
/-- name = {..} on one line -/
theorem ps_setDcV {i : Nat} {y : Str} {py spos : Pos} (n0 : New0 o0) (hu : X.A.units < cLine) (calm : X.calm = true) (nd : X.N.Nodup) (hy : X.N[i]? = some y) (ly : X.env.scope.names.lookup y = some .local)
    (sw : swapsWith (.DictComp kx vx [⟨tg, iter, ifs, 0⟩] scope pos) (some (.Name y py)) spos.line X.env = pure true) (hi : PI X tg iter wi) (bo : BlkOk X.N X.env.scope scope own)
    (bg : ∀ (s : Shared) (H : Hp) (C : Addr) (cl : List (Str × Addr)) (fp : List Addr), PG (X.blk s H scope (compEnvC scope cl C X.env) fp) tg g)
    (bt : ∀ (s : Shared) (H : Hp) (C : Addr) (cl : List (Str × Addr)) (fp : List Addr), PTs (X.blk s H scope (compEnvC scope cl C X.env) fp) ifs tt)
    (bk : ∀ (s : Shared) (H : Hp) (C : Addr) (cl : List (Str × Addr)) (fp : List Addr), PE (X.blk s H scope (compEnvC scope cl C X.env) fp) kx tk)
    (bv : ∀ (s : Shared) (H : Hp) (C : Addr) (cl : List (Str × Addr)) (fp : List Addr), PE (X.blk s H scope (compEnvC scope cl C X.env) fp) vx tv) (fs : ∀ x, foldedSetIterable iter X.env x = pure x) :
    PS X (.Assign [.Name y py] (.DictComp kx vx [⟨tg, iter, ifs, 0⟩] scope pos) spos) (tAsg (tDcV o0 wi g tt tk tv (own.map (·.2))) (gName i)) := by
  refine ⟨fun pins s σ H D I h => ?_⟩
  rw [exec_Assign_Name_used _ _ _ _ sw]
  refine wpAny_bind (wpAny_standAt (wpAny_bind ?_))
  show wpAny _ X.A (do let _ ← comprehension (.DictComp kx vx [⟨tg, iter, ifs, 0⟩] scope pos) scope X.env (firstIterPos [⟨tg, iter, ifs, 0⟩] pos) newDict false (eval iter X.env) (some (assign (.Name y py) X.env))) _ _ s
  have h : tDcV o0 wi g tt tk tv (own.map (·.2)) σ H (fun x H1 => gName i x σ H1 D.nx) := h
  refine wpAny_bind (thn (dcV_core (Qf := fun _ s' => SP X pins D .next s') n0 hu calm nd I hi bo bg bt bk bv fs h fun L C s' m H' I' q hn f => ?_) fun _ s' hq => wpAny_pure (wpAny_pure hq))
  show wpAny _ _ (assign (.Name y py) X.env (.ref L)) _ _ _
  refine wpAny_assign_Name (store_ok2 (v := V.ref L) I' nd hy (.inl ly) rfl (fun s2 I2 ⟨a, sb, ha⟩ => ?_) (.inr ly))
  obtain ⟨c0, c1, c2, c3, c4, c5⟩ := f
  have nCa : C ≠ a := ha.elim (fun z => by rw [z]; exact c1) fun z e => c4 y a z e.symm
  refine ⟨m, hn.sameBut sb nCa, fun h3 sb3 => ?_⟩
  exact ⟨_, H', I2.turned (t' := s2.toks) (fun b o hb e => (sb3.2 b hb).trans e) c0 c1 c3 c4 c5, q⟩
theorem swD_true {gs : List Comprehension} {py : Pos} {y : Str} {l : Nat} {env : Env} (hk : env.scope.kind = .function) (hy : env.scope.names.lookup y = some .local) (hl : (py.line == pos.line) = true)
    (ha : (scope.names.any fun (n, k) => n == y && (k == .local || k == .cell)) = false) : swapsWith (.DictComp kx vx gs scope pos) (some (.Name y py)) l env = pure true := by
  have k1 : env.kindOf y = some .local := hy
  have k2 : env.blockKind = .function := by unfold Env.blockKind; rw [hk]; rfl
  unfold swapsWith
  simp only [k2, k1, ha, Expr.pos, hl]
  rfl
end
end VL

/-! VL13: dict comprehensions by values; own dicts locked while they are walked. -/
namespace VL
open PySem PySem.Spec PyProof.Rows L2

/-! ### 1. {k: v for target in iter if ..} -/
inductive RepD (K : PySem.W.Frag) (F : Hp) : HO → Bool → List (Val × Val) → Prop
  | k {l : List (Key × V)} {kvs : List (Val × Val)} : RepP K F (l.map kK) kvs → RepD K F (.dK l) false kvs
  | t {l : List (List Key × V)} {kvs : List (Val × Val)} : RepP K F (l.map kT) kvs → RepD K F (.dT l) true kvs
section
variable {K : PySem.W.Frag} {F F' : Hp} {o : HO} {b : Bool} {kvs : List (Val × Val)}
theorem RepD.mono (h : RepD K F o b kvs) (s : Sub F F') : RepD K F' o b kvs := by
  cases h with
  | k h => exact .k (h.mono s)
  | t h => exact .t (h.mono s)
theorem RepD.nt (h : RepD K F o b kvs) : ∀ ws, o ≠ .tup ws := fun ws e => by cases h <;> cases e
theorem RepD.own {H : Hp} {a : Addr} (h : RepD K F o b kvs) (e : H a = some o) : RepO K F H (fun x => x = a) (.ref a) (.oD b kvs) := by
  cases h with
  | k h => exact .oK e rfl h
  | t h => exact .oDT e rfl h
theorem RepD.put {H : Hp} {a : Addr} {y z : V} {k v : Val} {d : DK} (h : RepD K F o b kvs) (e : H a = some o) (sb : Sub F H) (rk : Rep K F y k) (rv : Rep K F z v) (ed : dkey k = some d) (hb : DK.isT d = b) (hz : kvs.length < sizeLine) :
    ∃ o', DPut H a y z (upd H a o') ∧ RepD K F o' b (vput kvs k d v) := by
  rcases rk.key ed with ⟨kk, rfl, rfl, rfl⟩ | ⟨ks, c, rfl, rfl, hc, rfl⟩
  · cases hb
    cases h with
    | k rp =>
      rename_i l
      refine ⟨_, .inl ⟨l, kk, e, rfl, ?_, rfl⟩, .k (RepP.put (e := kVal) (c := Sum.inl) dkey_k inl_inj kk rv rp)⟩
      have := rp.length; rw [List.length_map] at this; rw [this]; exact hz
  · cases hb
    cases h with
    | t rp =>
      rename_i l
      refine ⟨_, .inr ⟨l, ks, c, e, rfl, sb _ _ hc, ?_, rfl⟩, .t (RepP.put (κ := List Key) (e := fun ks => Val.tup (ks.map kVal)) (c := Sum.inr) (l := l) dkey_t inr_inj ks rv rp)⟩
      have := rp.length; rw [List.length_map] at this; rw [this]; exact hz
end
def o0 (b : Bool) : HO := if b = true then .dT [] else .dK []
theorem o0_new (b : Bool) : New0 (o0 b) := by cases b; exact .inl rfl; exact .inr rfl
theorem o0_rep {K : PySem.W.Frag} {F : Hp} (b : Bool) : RepD K F (o0 b) b [] := by cases b; exact .k .nil; exact .t .nil
section
variable {W : Wo} {X : Cx} {E : WX} {U : List Nat}
def compD (b : Bool) (ρ : En) (vs : List Nat) (p : Pu) (t : Sm W Bool) (kf vf : Ev W) : List Val → List (Val × Val) → W.S → R W.S OT
  | [], acc, s => .ok (.oD b acc) s
  | x :: xs, acc, s => match p x (wipeE ρ vs) with
    | none => .bad
    | some ρ1 => match t ρ1 s with
      | .ok c s1 => if c = true then match kf ρ1 s1 with
          | .ok k s2 => match vf ρ1 s2 with
            | .ok v s3 => match dkey k with
              | some d => if DK.isT d = b ∧ acc.length < sizeLine then compD b ρ vs p t kf vf xs (vput acc k d v) s3 else .bad
              | none => .bad
            | _ => .bad
          | _ => .bad
        else compD b ρ vs p t kf vf xs acc s1
      | _ => .bad
def fDc (b : Bool) (vs : List Nat) (it : Sm W (List Val)) (p : Pu) (t : Sm W Bool) (kf vf : Ev W) : Sm W OT := fun ρ s => (it ρ s).bind fun xs s1 => compD b ρ vs p t kf vf xs [] s1
theorem dc_run {K : PySem.W.Frag} {b : Bool} {vs : List Nat} {it : Sm W (List Val)} {p : Pu} {t : Sm W Bool} {kf vf : Ev W} {σ : L2.St} {H : Hp} {Q : VK} (hq : tG W K E (pF K) (fDc b vs it p t kf vf) σ H Q) :
    tDcV (o0 b) (fun σ H R => tG W K E (pI K U) it σ H R) (tVG W K vs p) (tG W K eN pT t) (tG W K eN (pV K) kf) (tG W K eN (pV K) vf) vs σ H Q := by
  obtain ⟨G0, ρ, s0, r0, hq⟩ := hq
  refine tG.mk r0 (Pst.mono (Pst.bind (P := pI K U H) hq) ?_)
  rintro J H1 ⟨G1, s1, xs, x1, r1, yl, h1⟩ D hD
  have dF : G1.F D = none := r1.toRelW.free hD
  have dA : ∀ i, ¬ G1.ad i D := fun i z => by
    obtain ⟨_, ⟨o, e, _⟩, _⟩ := r1.own i D z
    rw [hD] at e; cases e
  have dP : ¬ G1.fp D := fun z => by
    obtain ⟨_, ⟨o, e⟩, _⟩ := W.own r1.wrl z
    rw [hD] at e; cases e
  refine ⟨fun i m H' => m = xs.length - i ∧ i ≤ xs.length ∧ ∃ G' s' ob acc, Nx G1 G' H1 H' ∧ Rel W K G' ρ s' σ H' ∧ H' D = some ob ∧ RepD K G'.F ob b acc ∧ G'.F D = none ∧ ¬ G'.fp D ∧
    Pst W K E (pF K H) G1 ρ σ H1 (compD b ρ vs p t kf vf (xs.drop i) acc s') Q, ⟨xs.length, by simp, Nat.zero_le _, G1, s1, o0 b, [], (Nx.refl _ _).lay hD, r1.lay dF dP dA (o0_rep (K := K) (F := G1.F) b).nt, upd_same, o0_rep b, dF, dP, by rw [List.drop_zero]; exact h1⟩, ?_⟩
  rintro i m H' ⟨rfl, hile, G', s', ob, acc, x', r', hD', rs, dF', dP', h'⟩
  have pins : ∀ a i, i ∈ U → G1.ad i a → H' a = H1 a := fun a i hi z => by
    obtain ⟨q1, ⟨o, q2, _⟩, q3⟩ := r1.own i a z
    rw [q2]
    exact x'.keep a o q2 q3
  have Y := yl G'.F H' x'.sub r'.sub r'.tups pins i
  by_cases hlt : i < xs.length
  · refine .inr ?_
    have ex : xs[i]? = some xs[i] := by simp [hlt]
    obtain ⟨hgo, hy⟩ := Y.1 _ ex
    rw [List.drop_eq_getElem_cons hlt] at h'
    unfold compD at h'
    refine ⟨hgo, fun H2 => ∃ m', m' < xs.length - i ∧ (m' = xs.length - (i + 1) ∧ i + 1 ≤ xs.length ∧ ∃ G' s' ob acc, Nx G1 G' H1 H2 ∧ Rel W K G' ρ s' σ H2 ∧ H2 D = some ob ∧ RepD K G'.F ob b acc ∧ G'.F D = none ∧ ¬ G'.fp D ∧
      Pst W K E (pF K H) G1 ρ σ H1 (compD b ρ vs p t kf vf (xs.drop (i + 1)) acc s') Q), fun H2 z => z, fun x H3 y => ?_⟩
    obtain ⟨G3, x3, r3, rp3⟩ : ∃ G3, Nx G' G3 H' H3 ∧ Rel W K G3 ρ s' σ H3 ∧ Rep K G3.F x xs[i] := by
      rcases hy x H3 y with ⟨rfl, rp⟩ | ⟨q, ws, vs, hq, rfl, rfl, ev, rs⟩
      · exact ⟨G', Nx.refl _ _, r', rp⟩
      · obtain ⟨hF, hH⟩ := r'.toRelW.fresh (o := .tup ws) hq (nd_tup ws)
        exact ⟨_, hF, r'.next hF hH, by rw [ev]; exact .tup upd_same (rs.mono (Sub.upd (r'.toRelW.free hq)))⟩
    have x13 := x'.trans x3
    obtain ⟨hD3, dF3, dP3⟩ := x3.bare r3.toRelW hD' rs.nt dF' dP'
    have r3w := r3.wipe vs
    cases ep : p xs[i] (wipeE ρ vs) with
    | none => rw [ep] at h'; exact h'.elim
    | some ρ1 =>
      rw [ep] at h'
      refine ⟨G3.hide vs, wipeE ρ vs, s', xs[i], ρ1, r3w, rp3, ep, fun G4 σ4 x4 o4 o4' r4 => ⟨wipe_back o4', tG.mk (P := fun _ => pT H3) r4 ?_⟩⟩
      have fin : ∀ {G5 : Gh} {H5 : Hp} {s5 : W.S} {ob5 : HO} {acc5 : List (Val × Val)}, Nx G4 G5 H3 H5 → RelW W G5 s5 H5 → ∀ {H6 : Hp}, (H6 = H5 ∧ ob5 = ob ∨ H6 = upd H5 D ob5) → RepD K G5.F ob5 b acc5 →
          Pst W K E (pF K H) G1 ρ σ H1 (compD b ρ vs p t kf vf (xs.drop (i + 1)) acc5 s5) Q →
          ∃ m', m' < xs.length - i ∧ (m' = xs.length - (i + 1) ∧ i + 1 ≤ xs.length ∧ ∃ G' s' ob acc, Nx G1 G' H1 H6 ∧ Rel W K G' ρ s' σ H6 ∧ H6 D = some ob ∧ RepD K G'.F ob b acc ∧ G'.F D = none ∧ ¬ G'.fp D ∧
            Pst W K E (pF K H) G1 ρ σ H1 (compD b ρ vs p t kf vf (xs.drop (i + 1)) acc s') Q) := by
        intro G5 H5 s5 ob5 acc5 x5 rw5 H6 h6 rs5 hp
        have x35 := x4.unhide x5
        have r5 := r3.next x35 rw5.reset
        have x15 := x13.trans x35
        obtain ⟨hD5, dF5, dP5⟩ := x35.bare r5.toRelW hD3 rs.nt dF3 dP3
        refine ⟨_, by omega, rfl, hlt, { G5 with ad := G3.ad }, s5, ob5, acc5, ?_⟩
        rcases h6 with ⟨rfl, rfl⟩ | rfl
        · exact ⟨x15, r5, hD5, rs5, dF5, dP5, hp⟩
        · refine ⟨x15.lay hD, r5.lay dF5 dP5 (fun j => ?_) rs5.nt, upd_same, rs5, dF5, dP5, hp⟩
          show ¬ G3.ad j D
          rw [x13.ad]; exact dA j
      dsimp only at h'
      cases et : t ρ1 s' with
      | bad => rw [et] at h'; exact h'.elim
      | exc c n s2 => rw [et] at h'; exact h'.elim
      | ok c s2 =>
        rw [et] at h'
        rintro G5 H5 c' x5 r5 rfl
        cases c' with
        | false => exact fin x5 r5.toRelW (.inl ⟨rfl, rfl⟩) (rs.mono (x3.sub.trans (x4.sub.trans x5.sub))) h'
        | true =>
          dsimp only at h'
          rw [if_pos rfl] at h' ⊢
          refine tG.mk (P := fun _ => pV K H5) r5 ?_
          cases ek : kf ρ1 s2 with
          | bad => rw [ek] at h'; exact h'.elim
          | exc c n s3 => rw [ek] at h'; exact h'.elim
          | ok k s3 =>
            rw [ek] at h'
            rintro G6 H6 y6 x6 r6 rp6
            have rp6 : Rep K G6.F y6 k := rp6
            refine tG.mk (P := fun _ => pV K H6) r6 ?_
            dsimp only at h'
            cases ef : vf ρ1 s3 with
            | bad => rw [ef] at h'; exact h'.elim
            | exc c n s4 => rw [ef] at h'; exact h'.elim
            | ok v s4 =>
              rw [ef] at h'
              rintro G7 H7 z7 x7 r7 rp7
              have rp7 : Rep K G7.F z7 v := rp7
              dsimp only at h'
              split at h'
              · rename_i d ed
                split at h'
                · rename_i hz
                  have x47 := x5.trans (x6.trans x7)
                  have x37 := x4.unhide x47
                  obtain ⟨hD7, _, _⟩ := x37.bare (r3.next x37 r7.toRelW.reset).toRelW hD3 rs.nt dF3 dP3
                  obtain ⟨o', dp, rs'⟩ := (rs.mono (x3.sub.trans (x4.sub.trans x47.sub))).put hD7 r7.sub (rp6.mono x7.sub) rp7 ed hz.1 hz.2
                  exact ⟨_, dp, fin x47 r7.toRelW (.inr rfl) rs' h'⟩
                · exact h'.elim
              · exact h'.elim
  · have e : i = xs.length := by omega
    subst e
    refine .inl ⟨Y.2 (Nat.le_refl _), ?_⟩
    rw [List.drop_length] at h'
    refine h' G' H' (.ref D) x' r' ⟨fun a => a = D, rs.own hD', ?_⟩
    rintro a rfl
    exact ⟨x1.there a hD, dF', ⟨_, hD', rs.nt⟩, dP', fun j => by rw [x'.ad]; exact dA j⟩
variable {kx vx tg iter : Expr} {ifs : List Expr} {scope : Scope} {own : List (Str × Nat)} {pos : Pos} {it : Sm W (List Val)} {p : Pu} {t : Sm W Bool} {kf vf : Ev W}
theorem vf_dc {vs : List Nat} (b : Bool) (hu : X.A.units < cLine) (hc : X.calm = true) (hN : X.N.Nodup) (ok : BlkOk X.N X.env.scope scope own) (hvs : own.map (·.2) = vs) (hi : VI W X E U tg iter it)
    (hg : ∀ (s : Shared) (H : Hp) (C : Addr) (cl : List (Str × Addr)) (fp : List Addr), VG W (X.blk s H scope (compEnvC scope cl C X.env) fp) vs tg p)
    (ht : ∀ (s : Shared) (H : Hp) (C : Addr) (cl : List (Str × Addr)) (fp : List Addr), VTs W (X.blk s H scope (compEnvC scope cl C X.env) fp) ifs t)
    (hk : ∀ (s : Shared) (H : Hp) (C : Addr) (cl : List (Str × Addr)) (fp : List Addr), VE W (X.blk s H scope (compEnvC scope cl C X.env) fp) eN kx kf)
    (hv : ∀ (s : Shared) (H : Hp) (C : Addr) (cl : List (Str × Addr)) (fp : List Addr), VE W (X.blk s H scope (compEnvC scope cl C X.env) fp) eN vx vf) (hs : ∀ x, foldedSetIterable iter X.env x = pure x := by intro _; rfl) :
    VF W X E (.DictComp kx vx [⟨tg, iter, ifs, 0⟩] scope pos) (fDc b vs it p t kf vf) := by
  subst hvs
  exact PE.imp (pe_dcV (g := tVG W X.K (own.map fun x : Str × Nat => x.2) p) (tt := tG W X.K eN pT t) (tk := tG W X.K eN (pV X.K) kf) (tv := tG W X.K eN (pV X.K) vf) (o0_new b) hu hc hN hi ok hg ht hk hv hs) fun _ _ _ h => dc_run h
/-- name = {..} -/
theorem vs_setDc {vs : List Nat} {T : List Nat} {i : Nat} {y : Str} {py spos : Pos} (b : Bool) (hi' : i ∈ T) (hu : X.A.units < cLine) (hc : X.calm = true) (hN : X.N.Nodup) (ok : BlkOk X.N X.env.scope scope own) (hvs : own.map (·.2) = vs) (hi : VI W X E U tg iter it)
    (hg : ∀ (s : Shared) (H : Hp) (C : Addr) (cl : List (Str × Addr)) (fp : List Addr), VG W (X.blk s H scope (compEnvC scope cl C X.env) fp) vs tg p)
    (ht : ∀ (s : Shared) (H : Hp) (C : Addr) (cl : List (Str × Addr)) (fp : List Addr), VTs W (X.blk s H scope (compEnvC scope cl C X.env) fp) ifs t)
    (hk : ∀ (s : Shared) (H : Hp) (C : Addr) (cl : List (Str × Addr)) (fp : List Addr), VE W (X.blk s H scope (compEnvC scope cl C X.env) fp) eN kx kf)
    (hv : ∀ (s : Shared) (H : Hp) (C : Addr) (cl : List (Str × Addr)) (fp : List Addr), VE W (X.blk s H scope (compEnvC scope cl C X.env) fp) eN vx vf)
    (hyl : X.env.scope.names.lookup y = some .local) (hl : (py.line == pos.line) = true) (ha : (scope.names.any fun (n, k) => n == y && (k == .local || k == .cell)) = false) (hy : X.N[i]? = some y := by rfl) (hkk : X.env.scope.kind = .function := by rfl)
    (hs : ∀ x, foldedSetIterable iter X.env x = pure x := by intro _; rfl) :
    VS W X E T (.Assign [.Name y py] (.DictComp kx vx [⟨tg, iter, ifs, 0⟩] scope pos) spos) (cSetF i (fDc b vs it p t kf vf)) := by
  subst hvs
  exact PS.imp (ps_setDcV (g := tVG W X.K (own.map fun x : Str × Nat => x.2) p) (tt := tG W X.K eN pT t) (tk := tG W X.K eN (pV X.K) kf) (tv := tG W X.K eN (pV X.K) vf) (o0_new b) hu hc hN hy hyl (swD_true hkk hyl hl ha) hi ok hg ht hk hv hs) fun D σ H ⟨G, ρ, s, r, h⟩ => by
    refine dc_run (E := E) (tG.mk (f := fDc b (own.map (·.2)) it p t kf vf) (P := pF X.K) r (Pst.mono (PstS.goAt (P := pF X.K H) h) ?_))
    rintro w H1 ⟨G1, s1, t, x1, r1, ⟨A, ro, hA⟩, h1⟩
    exact h1 (G1.put i A) H1 _ (Ns.put (x1.ns T) hi' fun a z => .inr (hA a z).1) (Off.set hi') (Off.set hi') (r1.put ro fun a z => ⟨(hA a z).2.1, (hA a z).2.2.1, (hA a z).2.2.2.1, fun j _ => (hA a z).2.2.2.2 j⟩)

/-! ### 2. an own dict is walked -/
theorem dict_lock {K : PySem.W.Frag} {G : Gh} {ρ : En} {s : W.S} {σ : L2.St} {H : Hp} {i : Nat} {b : Bool} {kvs : List (Val × Val)} (r : Rel W K G ρ s σ H) (e : ρ[i]? = some (some (.oD b kvs))) :
    ∃ d u, σ[i]? = some (some (.ref d)) ∧ H d = some u ∧ Mut (some u) ∧ G.ad i d ∧ RepD K G.F u b kvs ∧ ∀ od, Rel W K G (ρ.set i (some (.oR b kvs))) s σ (upd H d (.frz od u)) := by
  obtain ⟨w1, A1, q⟩ := r.at (π := []) e rfl
  obtain ⟨w, hw, pw⟩ := q.path
  have pw : w1 = w := pw
  subst pw
  have qr := q.rep
  cases qr with
  | oK ha hA rp => exact ⟨_, _, hw, ha, True.intro, q.own _ hA, .k rp, fun od => (q.one r hA (nd_frz _ _).2 (.oRK upd_same hA rp)).1⟩
  | oDT ha hA rp => exact ⟨_, _, hw, ha, True.intro, q.own _ hA, .t rp, fun od => (q.one r hA (nd_frz _ _).2 (.oRT upd_same hA rp)).1⟩
theorem dict_unlock {K : PySem.W.Frag} {G : Gh} {ρ : En} {s : W.S} {σ : L2.St} {H : Hp} {i : Nat} {b : Bool} {kvs : List (Val × Val)} {d : Addr} {od : Obj} {u : HO} (r : Rel W K G ρ s σ H) (e : ρ[i]? = some (some (.oR b kvs)))
    (hs : σ[i]? = some (some (.ref d))) (hd : H d = some (.frz od u)) : Rel W K G (ρ.set i (some (.oD b kvs))) s σ (upd H d u) := by
  obtain ⟨w1, A1, q⟩ := r.at (π := []) e rfl
  obtain ⟨w, hw, pw⟩ := q.path
  have pw : w1 = w := pw
  subst pw
  rw [hs] at hw
  have qr := q.rep
  cases hw
  cases qr with
  | oRK ha hA rp =>
    rw [hd] at ha; cases ha
    exact (q.one r hA (fun _ z => (by cases z)) (.oK upd_same hA rp)).1
  | oRT ha hA rp =>
    rw [hd] at ha; cases ha
    exact (q.one r hA (fun _ z => (by cases z)) (.oDT upd_same hA rp)).1
/-- a statement during which the dict in slot i is but read -/
def cLock (i : Nat) (c : Cm W) : Cm W := fun ρ s => match ρ[i]? with
  | some (some (.oD b kvs)) => match c (ρ.set i (some (.oR b kvs))) s with
    | .nx ρ' s' => .nx (ρ'.set i (some (.oD b kvs))) s'
    | .bk ρ' s' => .bk (ρ'.set i (some (.oD b kvs))) s'
    | .ct ρ' s' => .ct (ρ'.set i (some (.oD b kvs))) s'
    | .rt (.sh v) s' => .rt (.sh v) s'
    | _ => .bad
  | _ => .bad
theorem lock_ns {T : List Nat} {G G' : Gh} {H H' : Hp} {i : Nat} {d : Addr} {od : Obj} {u : HO} (hi : i ∉ T) (x : Ns T G G' (upd H d (.frz od u)) H') (hd : H d = some u) : Ns T G G' H (upd H' d u) where
  sub := x.sub
  keep := fun a o e n k => by
    by_cases q : a = d
    · subst q; rw [hd] at e; cases e; exact upd_same
    · rw [upd_ne q]; exact x.keep a o (by rw [upd_ne q]; exact e) n k
  there := fun a h => by
    by_cases q : a = d
    · subst q; rw [upd_same] at h; cases h
    · rw [upd_ne q] at h
      have := x.there a h
      rw [upd_ne q] at this; exact this
  adN := x.adN
  adT := fun j a hj z => by
    rcases x.adT j a hj z with y | y
    · exact .inl y
    · refine .inr ?_
      by_cases q : a = d
      · subst q; rw [upd_same] at y; cases y
      · rw [upd_ne q] at y; exact y
  fp := fun a z => by
    rcases x.fp a z with y | y
    · exact .inl y
    · refine .inr ?_
      by_cases q : a = d
      · subst q; rw [upd_same] at y; cases y
      · rw [upd_ne q] at y; exact y
  fz := fun a o z => by
    rcases x.fz a o z with y | y | y
    · exact .inl y
    · refine .inr (.inl ?_)
      by_cases q : a = d
      · subst q; rw [upd_same] at y; cases y
      · rw [upd_ne q] at y; exact y
    · exact .inr (.inr y)
theorem lock_nx {G G' : Gh} {H H' : Hp} {d : Addr} {od : Obj} {u : HO} (x : Nx G G' (upd H d (.frz od u)) H') (hd : H d = some u) : Nx G G' H (upd H' d u) := by
  have y := lock_ns (i := 0) (T := []) (by simp) (x.ns []) hd
  exact ⟨y.sub, fun a o e n => y.keep a o e n fun _ z => (by cases z), y.there, x.ad, y.fp, fun a o e => by
    rcases y.fz a o e with q | q | q | ⟨i, q, _⟩ | q
    · exact .inl q
    · exact .inr (.inl q)
    · exact .inr (.inr (.inl q))
    · cases q
    · exact .inr (.inr (.inr q))⟩
theorem off_back {α : Type} {T : List Nat} {i : Nat} {l l' : List α} {a b : α} (hi : i ∉ T) (x : Off T (l.set i a) l') (e : l[i]? = some b) : Off T l (l'.set i b) := by
  have hl : l'.length = l.length := by rw [x.1, List.length_set]
  refine ⟨by rw [List.length_set, hl], fun j hj => ?_⟩
  by_cases q : j = i
  · subst q
    have := (List.getElem?_eq_some_iff.mp e).1
    rw [List.getElem?_set_self (by omega), e]
  · rw [List.getElem?_set_ne (Ne.symm q), x.2 j hj, List.getElem?_set_ne (Ne.symm q)]
theorem vs_lock {T : List Nat} {st : Stmt} {c : Cm W} (i : Nat) (hi : i ∉ T) (h : VS W X E T st c) : VS W X E T st (cLock i c) := PS.imp (ps_lock h) fun D σ H ⟨G, ρ, s, r, hq⟩ => by
  unfold cLock at hq
  split at hq
  · rename_i b kvs e
    obtain ⟨d, u, hs, hd, mu, hA, rd, lk⟩ := dict_lock r e
    refine ⟨d, u, hd, mu, fun od => ⟨G, _, s, lk od, ?_⟩⟩
    have il : i < ρ.length := (List.getElem?_eq_some_iff.mp e).1
    have kept : ∀ {G' : Gh} {H' : Hp}, Ns T G G' (upd H d (.frz od u)) H' → H' d = some (.frz od u) := fun x => x.keep d _ upd_same (r.own i d hA).2.2 fun j hj z => r.dis i j d (fun q => hi (by rw [q]; exact hj)) hA z
    have slotR : ∀ {ρ' : En}, Off T (ρ.set i (some (.oR b kvs))) ρ' → ρ'[i]? = some (some (.oR b kvs)) := fun o => by rw [o.2 i hi, List.getElem?_set_self il]
    have slotS : ∀ {σ' : L2.St}, Off T σ σ' → σ'[i]? = some (some (.ref d)) := fun o => by rw [o.2 i hi, hs]
    cases q : c (ρ.set i (some (.oR b kvs))) s with
    | nx ρ' s' =>
      rw [q] at hq
      exact fun G' H' σ' x o1 o2 r' => ⟨kept x, hq G' _ σ' (lock_ns hi x hd) (off_back hi o1 e) o2 (dict_unlock r' (slotR o1) (slotS o2) (kept x))⟩
    | bk ρ' s' =>
      rw [q] at hq
      exact fun G' H' σ' x o1 o2 r' => ⟨kept x, hq G' _ σ' (lock_ns hi x hd) (off_back hi o1 e) o2 (dict_unlock r' (slotR o1) (slotS o2) (kept x))⟩
    | ct ρ' s' =>
      rw [q] at hq
      exact fun G' H' σ' x o1 o2 r' => ⟨kept x, hq G' _ σ' (lock_ns hi x hd) (off_back hi o1 e) o2 (dict_unlock r' (slotR o1) (slotS o2) (kept x))⟩
    | rt t s' =>
      rw [q] at hq
      cases t with
      | sh v =>
        rintro G' H' w x rw' ⟨A, ro, hA'⟩
        refine ⟨kept x, hq G' _ w (lock_ns hi x hd) ?_ ⟨fun _ => False, ?_, fun _ z => z.elim⟩⟩
        · have dF : G'.F d = none := by
            cases qq : G'.F d with
            | none => rfl
            | some o =>
              have q2 := rw'.sub _ _ qq
              rw [kept x] at q2; cases q2
              rcases x.fz d _ qq with z | z | z | ⟨j, hj, z⟩ | ⟨ws, z⟩
              · rw [(r.own i d hA).1] at z; cases z
              · rw [upd_same] at z; cases z
              · exact absurd z (r.own i d hA).2.2
              · exact absurd z (r.dis i j d (fun q => hi (by rw [q]; exact hj)) hA)
              · cases z
          have dP : ¬ G'.fp d := fun z => by
            rcases x.fp d z with y | y
            · exact (r.own i d hA).2.2 y
            · rw [upd_same] at y; cases y
          refine ⟨fun a o z => ?_, fun a ws z => ?_, rw'.lk, W.mono rw'.wrl (Sub.refl _) fun a z => ⟨upd_ne fun y => dP (by rw [← y]; exact z), (W.own rw'.wrl z).1⟩⟩
          · rw [upd_ne (ne_of_none z dF)]; exact rw'.sub a o z
          · by_cases y : a = d
            · subst y; rw [upd_same] at z; cases z; exact absurd rfl (rd.nt ws)
            · rw [upd_ne y] at z; exact rw'.tups a ws z
        · cases ro with
          | sh rp => exact .sh rp
      | _ => exact hq.elim
    | exc cc n ρ' s' => rw [q] at hq; exact hq.elim
    | bad => rw [q] at hq; exact hq.elim
  · exact hq.elim
/-- a new thing, made while the dict in slot i is but read -/
def fLock (i : Nat) (f : Sm W OT) : Sm W OT := fun ρ s => match ρ[i]? with
  | some (some (.oD b kvs)) => match f (ρ.set i (some (.oR b kvs))) s with
    | .ok t s' => .ok t s'
    | _ => .bad
  | _ => .bad
theorem vf_lock {e : Expr} {f : Sm W OT} (i : Nat) (h2 : VF W X E e f) : VF W X E e (fLock i f) := PE.imp (pe_lock h2) fun σ H Q ⟨G, ρ, s, r, hq⟩ => by
  unfold fLock at hq
  split at hq
  · rename_i b kvs e
    obtain ⟨d, u, hs, hd, mu, hA, rd, lk⟩ := dict_lock r e
    refine ⟨d, u, hd, mu, fun od => ⟨G, _, s, lk od, ?_⟩⟩
    have il : i < ρ.length := (List.getElem?_eq_some_iff.mp e).1
    cases q : f (ρ.set i (some (.oR b kvs))) s with
    | bad => rw [q] at hq; exact hq.elim
    | exc c n s' => rw [q] at hq; exact hq.elim
    | ok t s' =>
      rw [q] at hq
      rintro G' H' w x r' ⟨A, ro, hAA⟩
      have hk : H' d = some (.frz od u) := x.keep d _ upd_same (r.own i d hA).2.2
      have r2 := dict_unlock r' (by rw [List.getElem?_set_self il]) hs hk
      rw [List.set_set] at r2
      have er : ρ.set i (some (.oD b kvs)) = ρ := by
        apply List.ext_getElem?
        intro j
        by_cases q : j = i
        · subst q; rw [List.getElem?_set_self il, e]
        · rw [List.getElem?_set_ne (Ne.symm q)]
      rw [er] at r2
      refine ⟨hk, hq G' _ w (lock_nx x hd) r2 ⟨A, ro.mono (Sub.refl _) (fun _ z => z) (fun a z => upd_ne fun y => ?_), fun a z => ?_⟩⟩
      · have := (hAA a z).1
        subst y; rw [upd_same] at this; cases this
      · obtain ⟨h1, h2, h3, h4, h5⟩ := hAA a z
        have nd : a ≠ d := fun y => by subst y; rw [upd_same] at h1; cases h1
        rw [upd_ne nd] at h1 ⊢
        exact ⟨h1, h2, h3, h4, h5⟩
  · exact hq.elim
end
end VL

/-! VL14: built-in functions: len, min, abs, int; in; sorted. -/
namespace VL
open PySem PySem.Spec PyProof.Rows L2

/-! ### 1. arguments that are looked at -/
def pBs (K : PySem.W.Frag) : Hp → RP (List V) (List Val) := fun _ G H w v => ∃ B, Sub B H ∧ (∀ a o, B a = some o → ¬ G.fp a) ∧ Reps K B w v
def VAB (W : Wo) (X : Cx) (E : WX) (es : List Expr) (f : Sm W (List Val)) : Prop := PA X es (tG W X.K E (pBs X.K) f)
section
variable {W : Wo} {X : Cx} {E : WX}
theorem pBs.back {K : PySem.W.Frag} : Back (pBs K) := fun _ p => p
theorem offW_sub {G : Gh} {H B : Hp} (s : Sub B H) (n : ∀ a o, B a = some o → ¬ G.fp a) : Sub B (offW G H) := fun a o e => by rw [offW_at (n a o e)]; exact s a o e
variable {e : Expr} {es : List Expr} {f : Ev W} {fs : Sm W (List Val)} {pos p1 : Pos}
theorem vab_nil : VAB W X E [] eNil := PA.imp pa_nil fun σ H Q ⟨G, ρ, s, r, h⟩ => Pst.done r h ⟨fun _ => none, fun _ _ z => (by cases z), fun _ _ z => (by cases z), .nil⟩
theorem vab_cons (h : VB W X E e f) (hr : VAB W X E es fs) (hs : starEach (e :: es) X.env = (false, eval e X.env) :: starEach es X.env := by rfl) : VAB W X E (e :: es) (eCons f fs) := PA.imp (pa_cons h hr hs) fun σ H Q hq => by
  have h' := seq2 (P := pB X.K) (P' := pBs X.K) (P2 := pBs X.K) (f := f) (f2 := fs) (g := fun v vs _ s2 => .ok (v :: vs) s2) pBs.back pB.keeps hq
  refine h'.mono fun w H1 h' => h'.mono ?_
  rintro u H2 ⟨G, ρ, s, x, y, rl, ⟨B1, s1, n1, r1⟩, ⟨B2, s2, n2, r2⟩, h'⟩
  exact h'.done rl ⟨offW G H2, fun a o e => (offW_some e).1, fun a o e => (offW_some e).2, .cons (r1.mono (offW_sub s1 n1)) (r2.mono (offW_sub s2 n2))⟩
/-- a call by what its rule asks: no new object comes -/
def FlatC (K : PySem.W.Frag) (r : List V → Hp → VK → Prop) (g : List Val → Option Val) : Prop := ∀ (H : Hp) (ws : List V) (vs : List Val) (v : Val) (Q : VK), Reps K H ws vs → g vs = some v → (∀ z, (∀ F, Rep K F z v) → Q z H) → r ws H Q
def eCl (g : List Val → Option Val) (fs : Sm W (List Val)) : Ev W := fun ρ s => (fs ρ s).bind fun vs s1 => R.opt (g vs) s1
variable {x : Str} {id : String} {r : List V → Hp → VK → Prop} {g : List Val → Option Val}
theorem flatC_run {σ : L2.St} {H : Hp} {Q : VK} (hf : FlatC X.K r g) (h : tG W X.K E (pV X.K) (eCl g fs) σ H Q) : tG W X.K E (pBs X.K) fs σ H fun ws H1 => r ws H1 Q := by
  refine (tG.bind (P := pBs X.K) h).mono ?_
  rintro ws H1 ⟨G, ρ, s, vs, rl, ⟨B, sb, nb, rs⟩, h'⟩
  obtain ⟨v, e, h'⟩ := Pst.opt h'
  exact hf H1 ws vs v Q (rs.mono sb) e fun z rz => h'.done rl (rz _)
theorem ve_callB (hc : CallR X (.builtin id) r) (hf : FlatC X.K r g) (hg : Gl X x) (hm : X.mg x = none) (hv : bootBuiltins x = some (.builtin id)) (ha : VAB W X E (e :: es) fs) (hn : x ≠ "__name__" := by decide) (hdb : (x == ("__debug__" : Str)) = false := by decide)
    (he : starEach (e :: es) X.env = (false, eval e X.env) :: starEach es X.env := by rfl) (hpl : (backTo pos (starEach es X.env)).any (·.1) = false := by rfl) : VE W X E (.Call (.Name x p1) (e :: es) [] pos) (eCl g fs) :=
  PE.imp (pe_callB hc hg hm hv ha hn hdb he hpl) fun _ _ _ h => flatC_run hf h
theorem ve_callT {T : String} (hc : CallR X (.type T) r) (hf : FlatC X.K r g) (hg : Gl X x) (hm : X.mg x = none) (hv : bootBuiltins x = some (.type T)) (ha : VAB W X E (e :: es) fs) (hn : x ≠ "__name__" := by decide) (hdb : (x == ("__debug__" : Str)) = false := by decide)
    (he : starEach (e :: es) X.env = (false, eval e X.env) :: starEach es X.env := by rfl) (hpl : (backTo pos (starEach es X.env)).any (·.1) = false := by rfl) : VE W X E (.Call (.Name x p1) (e :: es) [] pos) (eCl g fs) :=
  PE.imp (pe_callTy hc hg hm hv ha hn hdb he hpl) fun _ _ _ h => flatC_run hf h
theorem Reps.one {K : PySem.W.Frag} {F : Hp} {ws : List V} {v : Val} (r : Reps K F ws [v]) : ∃ w, ws = [w] ∧ Rep K F w v := by
  cases r with
  | cons r t => cases t; exact ⟨_, rfl, r⟩
theorem Reps.two {K : PySem.W.Frag} {F : Hp} {ws : List V} {v u : Val} (r : Reps K F ws [v, u]) : ∃ w z, ws = [w, z] ∧ Rep K F w v ∧ Rep K F z u := by
  cases r with
  | cons r t =>
    obtain ⟨z, rfl, r2⟩ := t.one
    exact ⟨_, _, rfl, r, r2⟩
/-! len, of lists, tuples, dicts, texts -/
def gLen : List Val → Option Val
  | [.lst xs] => some (.int xs.length)
  | [.tup xs] => some (.int xs.length)
  | [.wtup xs] => some (.int xs.length)
  | [.wlst xs] => some (.int xs.length)
  | [.dic _ kvs] => some (.int kvs.length)
  | [.str z] => if z.length ≤ sizeLine then some (.int z.length) else none
  | _ => none
def rLenD : List V → Hp → VK → Prop := fun xs H Q => ∃ a n, xs = [.ref a] ∧ ((∃ l, Rd H a (.dK l) ∧ n = l.length) ∨ ∃ l, Rd H a (.dT l) ∧ n = l.length) ∧ Q (.int (n : Nat)) H
theorem call_lenV : CallR X (.builtin "len") rLenD := by
  intro pins s σ H xs us Q I r h
  obtain ⟨a, n, rfl, hd, q⟩ := h
  obtain ⟨u, rfl, rx⟩ := vals1 r
  obtain rfl : u = .ref a := rx
  have hl := line63
  rcases hd with ⟨l, hd, rfl⟩ | ⟨l, hd, rfl⟩
  · exact d_len I hd fun t s' I' => ⟨.int _, H, I', ⟨t, rfl⟩, q⟩
  · obtain ⟨z, lo, ys, kt, dd⟩ := dt_rd I.hok hd
    have el : l.length = ys.length := Paired.length kt
    refine PySem.call_len_dictH lo dd (by omega) ?_
    rw [← el]
    exact ⟨.int _, H, I.tok _, ⟨_, rfl⟩, q⟩
def rLenV (K : PySem.W.Frag) : List V → Hp → VK → Prop := fun xs H Q => (∃ x n, xs = [x] ∧ LenV K x H n ∧ Q (.int n) H) ∨ rLenD xs H Q
theorem call_lenA : CallR X (.builtin "len") (rLenV X.K) := call_len.or call_lenV
theorem RepP.len2 {K : PySem.W.Frag} {F : Hp} {κ : Type} {l : List κ} {f : κ → Val × V} {kvs : List (Val × Val)} (h : RepP K F (l.map f) kvs) : l.length = kvs.length := by
  have := h.length
  rw [List.length_map] at this
  exact this
theorem flat_len : FlatC X.K (rLenV X.K) gLen := by
  intro H ws vs v Q rs e q
  unfold gLen at e
  split at e
  · cases e
    obtain ⟨w, rfl, r⟩ := rs.one
    obtain ⟨a, us, rfl, ha, rt⟩ := r.seqL
    exact .inl ⟨_, us.length, rfl, .inl ⟨us, SqL.of ha, rfl⟩, q _ fun F => by rw [rt.length]; exact .int _⟩
  · cases e
    obtain ⟨w, rfl, r⟩ := rs.one
    obtain ⟨a, us, rfl, ha, rt⟩ := r.seqT
    exact .inl ⟨_, us.length, rfl, .inr ⟨us, SqT.of ha, rfl⟩, q _ fun F => by rw [rt.length]; exact .int _⟩
  · cases e
    obtain ⟨w, rfl, r⟩ := rs.one
    obtain ⟨a, us, rfl, ha, rt⟩ := r.seqW
    exact .inl ⟨_, us.length, rfl, .inr ⟨us, ha, rfl⟩, q _ fun F => by rw [rt.length]; exact .int _⟩
  · cases e
    obtain ⟨w, rfl, r⟩ := rs.one
    obtain ⟨a, us, rfl, ha, rt⟩ := r.seqV
    exact .inl ⟨_, us.length, rfl, .inl ⟨us, ha, rfl⟩, q _ fun F => by rw [rt.length]; exact .int _⟩
  · cases e
    obtain ⟨w, rfl, r⟩ := rs.one
    cases r with
    | dK ha rp => exact .inr ⟨_, _, rfl, .inl ⟨_, ha, rfl⟩, q _ fun F => by rw [RepP.len2 rp]; exact .int _⟩
    | dT ha rp => exact .inr ⟨_, _, rfl, .inr ⟨_, ha, rfl⟩, q _ fun F => by rw [RepP.len2 rp]; exact .int _⟩
  · split at e
    · cases e
      obtain ⟨w, rfl, r⟩ := rs.one
      cases r.str_inv
      exact .inl ⟨_, _, rfl, ⟨by assumption, rfl⟩, q _ fun F => .int _⟩
    · cases e
  · cases e
theorem ve_len {a : Expr} {f : Ev W} (hg : Gl X "len") (hm : X.mg "len" = none) (ha : VB W X E a f) (h1 : starEach [a] X.env = (false, eval a X.env) :: starEach [] X.env := by rfl) : VE W X E (.Call (.Name "len" p1) [a] [] pos) (eCl gLen (eCons f eNil)) :=
  ve_callB call_lenA flat_len hg hm PySem.boot_len (vab_cons ha vab_nil h1) (he := h1)
/-! min, max of two, abs, int -/
def gMin : List Val → Option Val
  | [.int i, .int j] => some (.int (if j < i then j else i))
  | _ => none
def gMax : List Val → Option Val
  | [.int i, .int j] => some (.int (if j > i then j else i))
  | _ => none
def gAbs : List Val → Option Val
  | [.int i] => some (.int (if i < 0 then -i else i))
  | _ => none
def gInt : List Val → Option Val
  | [.int i] => some (.int i)
  | [.bl b] => some (.int (if b then 1 else 0))
  | _ => none
variable {a b : Expr} {fa fb : Ev W}
theorem ve_min (hc : X.calm = true) (hg : Gl X "min") (hm : X.mg "min" = none) (ha : VB W X E a fa) (hb : VB W X E b fb) (h1 : starEach [a, b] X.env = (false, eval a X.env) :: starEach [b] X.env := by rfl) (h2 : starEach [b] X.env = (false, eval b X.env) :: starEach [] X.env := by rfl)
    (hpl : (backTo pos (starEach [b] X.env)).any (·.1) = false := by rfl) : VE W X E (.Call (.Name "min" p1) [a, b] [] pos) (eCl gMin (eCons fa (eCons fb eNil))) :=
  ve_callB (call_min2 hc) (fun H ws vs v Q rs e q => by
    unfold gMin at e
    split at e
    · cases e
      obtain ⟨w, z, rfl, r1, r2⟩ := rs.two
      cases r1.int_inv; cases r2.int_inv
      exact ⟨_, _, rfl, q _ fun F => .int _⟩
    · cases e) hg hm (by rfl) (vab_cons ha (vab_cons hb vab_nil h2) h1) (he := h1) (hpl := hpl)
theorem ve_max (hc : X.calm = true) (hg : Gl X "max") (hm : X.mg "max" = none) (ha : VB W X E a fa) (hb : VB W X E b fb) (h1 : starEach [a, b] X.env = (false, eval a X.env) :: starEach [b] X.env := by rfl) (h2 : starEach [b] X.env = (false, eval b X.env) :: starEach [] X.env := by rfl)
    (hpl : (backTo pos (starEach [b] X.env)).any (·.1) = false := by rfl) : VE W X E (.Call (.Name "max" p1) [a, b] [] pos) (eCl gMax (eCons fa (eCons fb eNil))) :=
  ve_callB (call_max2 hc) (fun H ws vs v Q rs e q => by
    unfold gMax at e
    split at e
    · cases e
      obtain ⟨w, z, rfl, r1, r2⟩ := rs.two
      cases r1.int_inv; cases r2.int_inv
      exact ⟨_, _, rfl, q _ fun F => .int _⟩
    · cases e) hg hm (by rfl) (vab_cons ha (vab_cons hb vab_nil h2) h1) (he := h1) (hpl := hpl)
theorem ve_abs (hg : Gl X "abs") (hm : X.mg "abs" = none) (ha : VB W X E a fa) (h1 : starEach [a] X.env = (false, eval a X.env) :: starEach [] X.env := by rfl) : VE W X E (.Call (.Name "abs" p1) [a] [] pos) (eCl gAbs (eCons fa eNil)) :=
  ve_callB call_abs (fun H ws vs v Q rs e q => by
    unfold gAbs at e
    split at e
    · cases e
      obtain ⟨w, rfl, r1⟩ := rs.one
      cases r1.int_inv
      exact ⟨_, rfl, q _ fun F => .int _⟩
    · cases e) hg hm (by rfl) (vab_cons ha vab_nil h1) (he := h1)
theorem ve_intc (hg : Gl X "int") (hm : X.mg "int" = none) (ha : VB W X E a fa) (h1 : starEach [a] X.env = (false, eval a X.env) :: starEach [] X.env := by rfl) : VE W X E (.Call (.Name "int" p1) [a] [] pos) (eCl gInt (eCons fa eNil)) :=
  ve_callT call_int1 (fun H ws vs v Q rs e q => by
    unfold gInt at e
    split at e
    · cases e
      obtain ⟨w, rfl, r1⟩ := rs.one
      cases r1.int_inv
      exact .inl ⟨_, rfl, q _ fun F => .int _⟩
    · cases e
      obtain ⟨w, rfl, r1⟩ := rs.one
      cases r1.bl_inv
      exact .inr ⟨_, rfl, q _ fun F => .int _⟩
    · cases e) hg hm (by rfl) (vab_cons ha vab_nil h1) (he := h1)

/-! ### 2. in, not in -/
def dep50 (x : Val) : Bool := decide (x.toD.depth ≤ 50)
/-- among a list's or a tuple's items -/
def Val.items : Val → Option (List Val)
  | .lst xs => some xs
  | .tup xs => some xs
  | .wtup xs => some xs
  | _ => none
def inL (x y : Val) : Option Bool := match y.items with
  | some ys => if dfree x && dfree y && dep50 x then some (ys.any fun z => PyData.eqv z.toD x.toD) else none
  | none => none
def gIn (neg : Bool) (x y : Val) : Option Val := (inL x y).map fun b => .bl (b != neg)
theorem toDs_any {p : PyData → Bool} : ∀ ys : List Val, (Val.toDs ys).any p = ys.any fun z => p z.toD
  | [] => rfl
  | y :: ys => by show (y.toD :: Val.toDs ys).any p = _; rw [List.any_cons, List.any_cons, toDs_any ys]
theorem dfree_at {x : Val} (h : dfree x = true) : x.pure = true ∧ x.toD.plain = true := by
  unfold dfree at h
  rw [Bool.and_eq_true] at h
  exact h
theorem op_inV (neg : Bool) (hu : X.A.units + 64 < cLine) : OpV X (compareOp (if neg = true then .NotIn else .In)) (gIn neg) := by
  intro pins s σ H B w u v z x y r Q I sb r1 r2 q1 q2 hg h
  unfold gIn inL at hg
  cases ei : y.items with
  | none => rw [ei] at hg; cases hg
  | some ys =>
    rw [ei] at hg
    dsimp only at hg
    split at hg
    · rename_i h0
      cases hg
      rw [Bool.and_eq_true, Bool.and_eq_true] at h0
      obtain ⟨⟨hx, hy⟩, hd⟩ := h0
      have hd : x.toD.depth ≤ 50 := of_decide_eq_true hd
      obtain ⟨as, h1⟩ := Rep.reads I sb r1 q1 (dfree_at hx).1
      obtain ⟨bs, h2⟩ := Rep.reads I sb r2 q2 (dfree_at hy).1
      have lim : ∀ n : Nat, X.A.units + 1 + min n x.toD.depth < cLine := fun n => by
        have := Nat.min_le_right n x.toD.depth
        omega
      have fin : ∀ b : Bool, Q (.bl b) H → EP X pins σ Q (.bool b) s := fun b q => ⟨.bl b, H, I, rfl, q⟩
      have hq : Q (.bl ((ys.any fun z => PyData.eqv z.toD x.toD) != neg)) H := h _ fun F => .bl _
      rw [← toDs_any (p := fun y => PyData.eqv y x.toD)] at hq
      have sq : y = .lst ys ∨ y.toD = .tuple (Val.toDs ys) := by
        cases y with
        | lst _ => cases ei; exact .inl rfl
        | tup _ => cases ei; exact .inr rfl
        | wtup _ => cases ei; exact .inr rfl
        | _ => cases ei
      have hcl := (dfree_at hy).2
      rcases sq with rfl | et
      · have hcl : PyData.plainAll (Val.toDs ys) = true := hcl
        cases neg with
        | false => exact SeqAt.in_list_data h2 h1 hcl (dfree_at hx).2 (lim _) (fin _ (by simpa using hq))
        | true => exact SeqAt.notIn_list_data h2 h1 hcl (dfree_at hx).2 (lim _) (fin _ (by simpa using hq))
      · rw [et] at h2 hcl
        have hcl : PyData.plainAll (Val.toDs ys) = true := hcl
        cases neg with
        | false => exact SeqAt.in_tuple_data h2 h1 hcl (dfree_at hx).2 (lim _) (fin _ (by simpa using hq))
        | true => exact SeqAt.notIn_tuple_data h2 h1 hcl (dfree_at hx).2 (lim _) (fin _ (by simpa using hq))
    · cases hg
theorem vc_in (hu : X.A.units + 64 < cLine) (ha : VB W X E a fa) (hb : VB W X E b fb) (hm : behindInMarks .In b = false := by rfl) : VC W X E .In a b (e2 (gIn false) fa fb) := vcmp (OpV.to (op_inV false hu)) flat_V ha hb hm
theorem vc_nin (hu : X.A.units + 64 < cLine) (ha : VB W X E a fa) (hb : VB W X E b fb) (hm : behindInMarks .NotIn b = false := by rfl) : VC W X E .NotIn a b (e2 (gIn true) fa fb) := vcmp (OpV.to (op_inV true hu)) flat_V ha hb hm
/-- among a dict's keys -/
def gInD (neg : Bool) (x y : Val) : Option Val := match y with
  | .dic t kvs => (dget t kvs x).map fun o => .bl (o.isSome != neg)
  | _ => none
theorem op_dinV (neg : Bool) (hu : X.A.units + 1 < cLine) : OpV X (compareOp (if neg = true then .NotIn else .In)) (gInD neg) := by
  intro pins s σ H B w u v z x y r Q I sb r1 r2 q1 q2 hg h
  unfold gInD at hg
  split at hg
  · rename_i t kvs
    cases e : dget t kvs x with
    | none => rw [e] at hg; cases hg
    | some o =>
      rw [e] at hg; cases hg
      obtain ⟨a, y, rfl, dg, h3⟩ := r2.dget sb r1 e
      obtain rfl : z = Value.ref a := q2
      have eo : y.isSome = o.isSome := by
        rcases h3 with ⟨rfl, rfl⟩ | ⟨_, _, rfl, rfl, _⟩ <;> rfl
      have h : ∀ q, (∀ F, Rep X.K F q (.bl (o.isSome != neg))) → Q q H := h
      rw [← eo] at h
      cases neg with
      | false => exact d_in hu I dg q1 fun s3 I3 => ⟨.bl y.isSome, H, I3, rfl, by have := h (.bl (y.isSome != false)) fun F => .bl _; simpa using this⟩
      | true => exact d_notIn hu I dg q1 fun s3 I3 => ⟨.bl (!y.isSome), H, I3, rfl, by have := h (.bl (y.isSome != true)) fun F => .bl _; simpa using this⟩
  · cases hg
theorem vc_inD (hu : X.A.units + 1 < cLine) (ha : VB W X E a fa) (hb : VB W X E b fb) (hm : behindInMarks .In b = false := by rfl) : VC W X E .In a b (e2 (gInD false) fa fb) := vcmp (OpV.to (op_dinV false hu)) flat_V ha hb hm
theorem vc_ninD (hu : X.A.units + 1 < cLine) (ha : VB W X E a fa) (hb : VB W X E b fb) (hm : behindInMarks .NotIn b = false := by rfl) : VC W X E .NotIn a b (e2 (gInD true) fa fb) := vcmp (OpV.to (op_dinV true hu)) flat_V ha hb hm
end
end VL

/-! VL15: sorted. -/
namespace VL
open PySem PySem.Spec PyProof.Rows L2

/-- the tuples of a heap -/
def TupOf (H : Hp) : Hp := fun a => match H a with
  | some (.tup ws) => some (.tup ws)
  | _ => none
theorem TupOf.sub {H : Hp} : Sub (TupOf H) H := fun a o e => by
  unfold TupOf at e
  split at e
  · cases e; assumption
  · cases e
theorem TupOf.at {H : Hp} {a : Addr} {ws : List V} (h : H a = some (.tup ws)) : TupOf H a = some (.tup ws) := by unfold TupOf; rw [h]
theorem TupOf.le {W : Wo} {G : Gh} {s : W.S} {H : Hp} (r : RelW W G s H) : Sub (TupOf H) G.F := fun a o e => by
  unfold TupOf at e
  split at e
  · cases e; exact r.tups _ _ (by assumption)
  · cases e

mutual
theorem reads_lt {h : Heap} : ∀ {v : Value} {d : PyData} {as : List Addr}, Reads h v d as → ∀ b ∈ as, b < h.objs.size
  | _, _, _, .none, _, hb => by cases hb
  | _, _, _, .bool _, _, hb => by cases hb
  | _, _, _, .int _ _, _, hb => by cases hb
  | _, _, _, .str _ _, _, hb => by cases hb
  | _, _, _, .list e _ _ r, b, hb => by
    rcases List.mem_cons.mp hb with rfl | hb
    · exact Heap.lt_size e
    · exact readsAll_lt r b hb
  | _, _, _, .tuple _ _ _ r, b, hb => readsAll_lt r b hb
  | _, _, _, .dict e _ _ r1 r2, b, hb => by
    rcases List.mem_append.mp hb with hb | hb
    · rcases List.mem_cons.mp hb with rfl | hb
      · exact Heap.lt_size e
      · exact readsAll_lt r1 b hb
    · exact readsAll_lt r2 b hb
theorem readsAll_lt {h : Heap} : ∀ {vs : List Value} {ds : List PyData} {as : List Addr}, ReadsAll h vs ds as → ∀ b ∈ as, b < h.objs.size
  | _, _, _, .nil, _, hb => by cases hb
  | _, _, _, .cons r t, b, hb => by
    rcases List.mem_append.mp hb with hb | hb
    · exact reads_lt r b hb
    · exact readsAll_lt t b hb
end
/-! ### 1. what can be sorted -/
def allAlikeB (ds : List PyData) : Bool := ds.all fun d => ds.all fun d' => PySem.W.alike d d'
def tupB : PyData → Bool
  | .tuple (_ :: _) => true
  | _ => false
def otherB : PyData → Bool
  | .none => false
  | .tuple _ => false
  | _ => true
def sortableB (ds : List PyData) : Bool := ds.all tupB || ds.all otherB
theorem allAlike_of {ds : List PyData} (h : allAlikeB ds = true) : PySem.W.AllAlike ds := fun d hd d' hd' => by
  unfold allAlikeB at h
  rw [List.all_eq_true] at h
  have h2 := h d hd
  rw [List.all_eq_true] at h2
  exact h2 d' hd'
theorem sortable_of {ds : List PyData} (h : sortableB ds = true) : PySem.W.Sortable ds := by
  unfold sortableB at h
  rw [Bool.or_eq_true, List.all_eq_true, List.all_eq_true] at h
  rcases h with h | h
  · refine .inl fun d hd => ?_
    have := h d hd
    unfold tupB at this
    split at this
    · exact ⟨_, _, rfl⟩
    · cases this
  · refine .inr fun d hd => ?_
    have := h d hd
    unfold otherB at this
    split at this
    · cases this
    · cases this
    · rename_i h1 h2
      exact ⟨h1, h2⟩
def leV : Val → Val → Bool := PySem.W.dataLe false Val.toD
def sortOk (vs : List Val) : Bool := Val.pures vs && allAlikeB (Val.toDs vs) && sortableB (Val.toDs vs) && decide (vs.length ≤ sizeLine) && vs.all dep50
def sortL (vs : List Val) : Option (List Val) := if sortOk vs = true then some (vs.mergeSort leV) else none
theorem toDs_map : ∀ vs : List Val, Val.toDs vs = vs.map Val.toD
  | [] => rfl
  | v :: vs => by show v.toD :: Val.toDs vs = _; rw [toDs_map vs]; rfl
section
variable {X : Cx} {pins : List (Addr × Obj)} {σ : L2.St} {H B : Hp} {s : Shared}
theorem pures_mem : ∀ {vs : List Val} {v : Val}, Val.pures vs = true → v ∈ vs → v.pure = true
  | [], _, _, h => by cases h
  | a :: r, v, hp, h => by
    have hp : (a.pure && Val.pures r) = true := hp
    rw [Bool.and_eq_true] at hp
    rcases List.mem_cons.mp h with rfl | h
    · exact hp.1
    · exact pures_mem hp.2 h
theorem each_zip (I : Inv X pins σ H s) (sb : Sub B H) : ∀ {vs : List Val} {ws : List V} {us : List Value}, Reps X.K B ws vs → Vals ws us → Val.pures vs = true →
    PySem.W.EachIs (fun u (b : V × Val) => RelV b.1 u) us (ws.zip vs) ∧ PySem.W.EachIs (fun u (b : V × Val) => ∃ as, Reads s.heap u b.2.toD as) us (ws.zip vs)
  | [], _, _, .nil, .nil, _ => ⟨.nil, .nil⟩
  | v :: vs, _, _, .cons r rs, .cons q qs, hp => by
    have hp : (v.pure && Val.pures vs) = true := hp
    rw [Bool.and_eq_true] at hp
    obtain ⟨h1, h2⟩ := each_zip I sb rs qs hp.2
    exact ⟨.cons q h1, .cons (Rep.reads I sb r q hp.1) h2⟩
theorem each_vals : ∀ {us : List Value} {bs : List (V × Val)}, PySem.W.EachIs (fun u (b : V × Val) => RelV b.1 u) us bs → Vals (bs.map (·.1)) us
  | _, _, .nil => .nil
  | _, _, .cons h t => .cons h (each_vals t)
theorem zip_map2 {ws : List V} {vs : List Val} (h : ws.length = vs.length) : (ws.zip vs).map (·.2) = vs := List.map_snd_zip (by omega)
theorem zip_map1 {ws : List V} {vs : List Val} (h : ws.length = vs.length) : (ws.zip vs).map (·.1) = ws := List.map_fst_zip (by omega)
theorem zip_rep {K : PySem.W.Frag} {F : Hp} : ∀ {ws : List V} {vs : List Val}, Reps K F ws vs → ∀ p ∈ ws.zip vs, Rep K F p.1 p.2
  | _, _, .nil, p, h => by cases h
  | _, _, .cons r t, p, h => by
    rw [List.zip_cons_cons] at h
    rcases List.mem_cons.mp h with rfl | h
    · exact r
    · exact zip_rep t p h
theorem reps_of {K : PySem.W.Frag} {F : Hp} : ∀ {bs : List (V × Val)}, (∀ p ∈ bs, Rep K F p.1 p.2) → Reps K F (bs.map (·.1)) (bs.map (·.2))
  | [], _ => .nil
  | b :: bs, h => .cons (h b List.mem_cons_self) (reps_of fun p hp => h p (List.mem_cons_of_mem _ hp))
def leW : V × Val → V × Val → Bool := PySem.W.dataLe false fun b => b.2.toD
theorem sorted_rep {K : PySem.W.Frag} {F : Hp} {ws : List V} {vs : List Val} (r : Reps K F ws vs) : Reps K F (((ws.zip vs).mergeSort leW).map (·.1)) (vs.mergeSort leV) := by
  have h1 : ((ws.zip vs).mergeSort leW).map (·.2) = vs.mergeSort leV := by
    have h2 := List.map_mergeSort (f := fun b : V × Val => b.2) (r := leW) (s := leV) (l := ws.zip vs) (fun a _ b _ => rfl)
    rw [h2, zip_map2 r.length]
  rw [← h1]
  exact reps_of fun p hp => zip_rep r p ((List.mergeSort_perm _ _).mem_iff.mp hp)
theorem sortOk_of {vs : List Val} (h : sortOk vs = true) : Val.pures vs = true ∧ PySem.W.AllAlike (Val.toDs vs) ∧ PySem.W.Sortable (Val.toDs vs) ∧ vs.length ≤ sizeLine ∧ ∀ v ∈ vs, v.toD.depth ≤ 50 := by
  unfold sortOk at h
  simp only [Bool.and_eq_true] at h
  obtain ⟨⟨⟨⟨h1, h2⟩, h3⟩, h4⟩, h5⟩ := h
  refine ⟨h1, allAlike_of h2, sortable_of h3, of_decide_eq_true h4, fun v hv => ?_⟩
  rw [List.all_eq_true] at h5
  exact of_decide_eq_true (h5 v hv)
theorem zip_enc {ws : List V} {vs : List Val} (h : ws.length = vs.length) : (ws.zip vs).map (fun b => b.2.toD) = Val.toDs vs := by
  rw [toDs_map, ← zip_map2 h, List.map_map, zip_map2 h]
  rfl
theorem zip_len {ws : List V} {vs : List Val} (h : ws.length = vs.length) : (ws.zip vs).length = vs.length := by rw [List.length_zip]; omega
theorem zip_dep {ws : List V} {vs : List Val} {n : Nat} (h : ∀ v ∈ vs, v.toD.depth ≤ n) : ∀ b ∈ ws.zip vs, b.2.toD.depth ≤ n := fun b hb => h b.2 (List.of_mem_zip (a := b.1) (b := b.2) hb).2
/-- sorted(xs) -/
def rSortL (K : PySem.W.Frag) : List V → Hp → VK → Prop := fun xs H Q => ∃ a ws vs, xs = [.ref a] ∧ SqL K H a ws ∧ Reps K H ws vs ∧ sortOk vs = true ∧ ∀ p, H p = none → Q (.ref p) (upd H p (.lst (((ws.zip vs).mergeSort leW).map (·.1))))
theorem call_sortL (hu : X.A.units + 64 < cLine) : CallR X (.builtin "sorted") (rSortL X.K) := by
  intro pins s σ H xs us Q I r h
  obtain ⟨a, ws, vs, rfl, hl, rs, ok, q⟩ := h
  obtain ⟨u, rfl, rx⟩ := vals1 r
  obtain rfl : u = .ref a := rx
  obtain ⟨hp, hal, hk, hz, hd⟩ := sortOk_of ok
  obtain ⟨its, rv, pl, _⟩ := I.list hl
  obtain ⟨e1, e2⟩ := each_zip I (Sub.refl _) rs rv hp
  have hlen := rs.length
  refine PySem.W.sorted_data (enc := fun b : V × Val => b.2.toD) (vs := its) (bs := ws.zip vs) (by simpa using pl.isList) e1 e2 (by rw [zip_enc hlen]; exact hal) (by rw [zip_enc hlen]; exact hk) (by rw [zip_len hlen]; exact hz)
    (fun b hb => by have := zip_dep hd b hb; omega) fun out ho eo => ?_
  obtain ⟨c, hc⟩ := PyProof.Rows.sortedAll_at s.heap its (List.toArray out)
  have fr : H (s.heap.objs.size + 1) = none := I.hok.fresh (Nat.le_succ _)
  refine ⟨.ref (s.heap.objs.size + 1), _, I.laid (t' := s.toks) (o := .lst (((ws.zip vs).mergeSort leW).map (·.1))) (fun b o e => PyProof.Rows.sortedAll_old e) (Nat.le_succ _) ⟨?_, out, c, each_vals eo, hc⟩, rfl, q _ fr⟩
  rw [List.length_map, List.length_mergeSort, zip_len hlen]
  exact hz
/-- sorted(d): its keys -/
def rSortD (K : PySem.W.Frag) : List V → Hp → VK → Prop := fun xs H Q => ∃ a vs, xs = [.ref a] ∧ sortOk vs = true ∧ ((∃ l, Rd H a (.dK l) ∧ vs = l.map fun p => kVal p.1) ∨ ∃ l, Rd H a (.dT l) ∧ vs = l.map fun p => Val.tup (p.1.map kVal)) ∧
  ∀ p ws, H p = none → Reps K (TupOf H) ws (vs.mergeSort leV) → Q (.ref p) (upd H p (.lst ws))
theorem rep_keys {K : PySem.W.Frag} {F : Hp} : ∀ l : List (Key × V), Reps K F (l.map fun p => kV p.1) (l.map fun p => kVal p.1)
  | [] => .nil
  | (.inl i, _) :: r => .cons (.int i) (rep_keys r)
  | (.inr x, _) :: r => .cons (.str x) (rep_keys r)
theorem rep_keysT {K : PySem.W.Frag} {H : Hp} : ∀ {l : List (List Key × V)} {xs : List (List Key × Addr × Value)}, KT H l xs → Reps K (TupOf H) (xs.map fun x => V.ref x.2.1) (l.map fun p => Val.tup (p.1.map kVal))
  | _, _, .nil => .nil
  | _, _, .cons h t => .cons (.tup (TupOf.at h.2.1) (Reps.keys _)) (rep_keysT t)
theorem call_sortD (hc : X.calm = true) (hu : X.A.units + 64 < cLine) : CallR X (.builtin "sorted") (rSortD X.K) := by
  intro pins s σ H xs us Q I r h
  obtain ⟨a, vs, rfl, ok, hd, q⟩ := h
  obtain ⟨u, rfl, rx⟩ := vals1 r
  obtain rfl : u = .ref a := rx
  obtain ⟨hp, hal, hk, hz, hdep⟩ := sortOk_of ok
  -- where the keys come from
  obtain ⟨n, P, OK, src, hOK, hn, hit⟩ : ∃ (n : Nat) (P : Nat → Value → Prop) (OK : Heap → Prop), PySem.W.KdlSrc X.prog X.w "dict" a a n P OK ∧ OK s.heap ∧ n ≤ sizeLine ∧
      ∀ acc : Array Value, ItemsOf P acc n → ∃ ws, Vals ws acc.toList ∧ Reps X.K (TupOf H) ws vs := by
    rcases hd with ⟨l, hd, ev⟩ | ⟨l, hd, ev⟩
    · obtain ⟨z, lo, es, kv, dd⟩ := dk_rd I.hok hd
      obtain ⟨ep, hat⟩ := dd.dictAt
      have hl : l.length = es.length := kv.length
      refine ⟨_, _, _, PySem.W.kdl_dict (knd := mixKind X.prog X.w) (kvs := es) (ep := ep) lo, hat, by omega, fun acc hacc => ⟨l.map fun p => kV p.1, ?_, by rw [ev]; exact rep_keys l⟩⟩
      have hal2 : acc.toList.length = es.length := by rw [Array.length_toList]; exact hacc.1
      have h1 := keys_at (vs := es) hal2 fun j v e => by
        obtain ⟨k, x, e1, e2⟩ := hacc.2 j v (by rw [← Array.getElem?_toList]; exact e)
        exact ⟨k, x, e1, e2⟩
      have h2 : (es.map fun p => kV p.1) = l.map fun p => kV p.1 := by
        have h3 := KV.keys kv
        have h4 : (es.map fun p => kV p.1) = (es.map (·.1)).map kV := by rw [List.map_map]; rfl
        rw [h4, ← h3, List.map_map]
        rfl
      rw [h2] at h1
      exact h1
    · obtain ⟨z, lo, es, kt, o, ens, ep, ho, hx, hdt, he, _, _⟩ := dt_rd I.hok hd
      have l1 : ens.size = es.length := size_of_entries he
      have l2 : l.length = es.length := Paired.length kt
      refine ⟨_, _, _, kdl_raw lo hx hdt, ho, by omega, fun acc hacc => ⟨es.map fun x => V.ref x.2.1, ?_, by rw [ev]; exact rep_keysT kt⟩⟩
      have hal2 : acc.toList.length = es.length := by rw [Array.length_toList, hacc.1]; exact l1
      have ea : acc.toList = (es.map fun x => x.2.1).map Value.ref := by
        rw [List.map_map]
        apply List.ext_getElem?
        intro j
        rw [List.getElem?_map]
        cases hj : acc.toList[j]? with
        | none =>
          have h1 := List.getElem?_eq_none_iff.mp hj
          rw [List.getElem?_eq_none (by omega)]
          rfl
        | some v =>
          obtain ⟨en, hen, hv⟩ := hacc.2 j v (by rw [← Array.getElem?_toList]; exact hj)
          have qe := entry_at he j
          rw [hen] at qe
          cases hx2 : es[j]? with
          | none => rw [hx2] at qe; cases qe
          | some y => rw [hx2] at qe; cases qe; rw [hv]; rfl
      rw [ea]
      have e2 : (es.map fun x => V.ref x.2.1) = (es.map fun x => x.2.1).map V.ref := by rw [List.map_map]; rfl
      rw [e2]
      exact vals_refs _
  refine Calls.call_function_entry PyProof.Rows.kind_sorted PyProof.Rows.plain_sorted PyProof.Rows.entry_sorted (PyProof.Rows.args_sorted1 _) ?_
  unfold Builtin.«sorted»
  refine wpAny_bind (m := checkCount "sorted" 1 1 _) (wpAny_pure ?_)
  refine wpAny_bind (PySem.W.kdu_collect (A := X.A.in1) src (I.ok.hd hc) hOK hn fun h' tk acc hkeep hacc => ?_)
  obtain ⟨ws, rv, rs⟩ := hit acc hacc
  have hlen := rs.length
  have hal2 : acc.toList.length = vs.length := by rw [← rv.length, hlen]
  have I1 : Inv X pins σ H { s with heap := h', toks := tk } := I.kept hkeep
  refine wpAny_bind (wpAny_newList ?_ (by rw [hal2]; exact hz))
  have hoL : (h'.push (PyProof.Rows.seqObj "list" acc.toList.toArray 0)).get? h'.objs.size = some (PyProof.Rows.seqObj "list" acc.toList.toArray 0) := Heap.get?_push_size _ rfl
  show wpAny _ _ _ _ _ { s with heap := h'.push (PyProof.Rows.seqObj "list" acc.toList.toArray 0), toks := tk }
  obtain ⟨e1, e2⟩ := each_zip I1 TupOf.sub rs rv hp
  have e3 : PySem.W.EachIs (fun u (b : V × Val) => ∃ as, Reads (h'.push (PyProof.Rows.seqObj "list" acc.toList.toArray 0)) u b.2.toD as ∧ h'.objs.size ∉ as) acc.toList (ws.zip vs) := e2.mono fun u b ⟨as, rd⟩ =>
    ⟨as, PyProof.Rows.Reads.keeps (fun b o e => Heap.get?_push_of_some _ e) rd, fun z => Nat.lt_irrefl _ (reads_lt rd _ z)⟩
  refine wpAny_bind (wpAny_holding (PySem.W.list_sort_data (s := { s with heap := h'.push (PyProof.Rows.seqObj "list" acc.toList.toArray 0), toks := tk }) (enc := fun b : V × Val => b.2.toD) (a := h'.objs.size) (n := 0) hoL e1 e3 (by rw [zip_enc hlen]; exact hal) (by rw [zip_enc hlen]; exact hk) (by rw [zip_len hlen]; exact hz)
    (fun b hb => by have := zip_dep hdep b hb; show X.A.units + 1 + 1 + _ < cLine; omega) fun out ho eo => ?_))
  obtain ⟨c, hcz⟩ := PyProof.Rows.sortedHeap_at (vs := acc.toList) (out := List.toArray out) hoL
  have fr : H h'.objs.size = none := I1.hok.fresh (Nat.le_refl _)
  refine wpAny_pure ⟨_, rfl, .ref h'.objs.size, _, I1.laid (t' := tk) (o := .lst (((ws.zip vs).mergeSort leW).map (·.1))) (fun b u e => ?_) (Nat.le_refl _) ⟨?_, out, c, each_vals eo, hcz⟩, rfl, q _ _ fr (sorted_rep rs)⟩
  · have hb : b < h'.objs.size := Heap.lt_size e
    rw [PyProof.Rows.sortedHeap_old (Nat.ne_of_lt hb) (by rw [PyProof.Rows.size_push']; exact Nat.lt_succ_of_lt hb)]
    exact Heap.get?_push_of_some _ e
  · rw [List.length_map, List.length_mergeSort, zip_len hlen]
    exact hz
end
end VL

/-! VL16: new things out of calls: sorted, +, dict of a dict, dict of pairs. -/
namespace VL
open PySem PySem.Spec PyProof.Rows L2
section
variable {W : Wo} {X : Cx} {E : WX}
/-! ### 1. a rule of a new object -/
/-- r makes one new object of its operands' places -/
def NewC (K : PySem.W.Frag) (r : List V → Hp → VK → Prop) (g : OT → Option OT) : Prop := ∀ (F H : Hp) (A : Addr → Prop) (w : V) (p t : OT) (Q : VK), Sub F H → Sub (TupOf H) F → RepO K F H A w p → g p = some t →
  (∀ a o, H a = none → (∀ ws, o ≠ .tup ws) → RepO K F (upd H a o) (fun x => x = a) (.ref a) t → Q (.ref a) (upd H a o)) → r [w] H Q
def fCl (g : OT → Option OT) (p : Sm W OT) : Sm W OT := fun ρ s => (p ρ s).bind fun t s1 => R.opt (g t) s1
variable {x : Str} {id T : String} {r : List V → Hp → VK → Prop} {g : OT → Option OT} {a b : Expr} {p : Sm W OT} {pos p1 : Pos}
theorem newC_run {σ : L2.St} {H : Hp} {Q : VK} (hf : NewC X.K r g) (h : tG W X.K E (pF X.K) (fCl g p) σ H Q) : tG W X.K E (pP X.K) p σ H fun w H1 => r [w] H1 Q := by
  obtain ⟨G0, ρ, s, rl, h⟩ := h
  refine tG.mk rl (Pst.mono (Pst.bind (P := pP X.K H) h) ?_)
  rintro w H1 ⟨G, s1, t, x1, r1, ⟨A, ro, hA⟩, h'⟩
  obtain ⟨u, e, h'⟩ := Pst.opt h'
  refine hf G.F H1 A w t u Q r1.sub (TupOf.le r1.toRelW) ro e fun q o hq ht rq => ?_
  obtain ⟨x2, r2, ⟨A2, ro2, hA2⟩⟩ := pF.new (o := o) (t := u) r1 hq ht rq
  exact h' _ _ _ x2 r2 ⟨A2, ro2, fun a z => ⟨x1.there a (hA2 a z).1, (hA2 a z).2⟩⟩
/-- one operand's place -/
def VA1 (W : Wo) (X : Cx) (E : WX) (e : Expr) (p : Sm W OT) : Prop := PA X [e] fun σ H Q => tG W X.K E (pP X.K) p σ H fun w H1 => Q [w] H1
theorem va1 (h : VP W X E a p) (hs : starEach [a] X.env = (false, eval a X.env) :: starEach [] X.env) : VA1 W X E a p := PA.imp (pa_cons h pa_nil hs) fun σ H Q hq => hq
theorem vf_callB (hc : CallR X (.builtin id) r) (hf : NewC X.K r g) (hg : Gl X x) (hm : X.mg x = none) (hv : bootBuiltins x = some (.builtin id)) (ha : VP W X E a p) (hn : x ≠ "__name__" := by decide) (hdb : (x == ("__debug__" : Str)) = false := by decide)
    (he : starEach [a] X.env = (false, eval a X.env) :: starEach [] X.env := by rfl) : VF W X E (.Call (.Name x p1) [a] [] pos) (fCl g p) :=
  PE.imp (pe_callB hc hg hm hv (va1 ha he) hn hdb he rfl) fun _ _ _ h => newC_run hf h
theorem vf_callT (hc : CallR X (.type T) r) (hf : NewC X.K r g) (hg : Gl X x) (hm : X.mg x = none) (hv : bootBuiltins x = some (.type T)) (ha : VP W X E a p) (hn : x ≠ "__name__" := by decide) (hdb : (x == ("__debug__" : Str)) = false := by decide)
    (he : starEach [a] X.env = (false, eval a X.env) :: starEach [] X.env := by rfl) : VF W X E (.Call (.Name x p1) [a] [] pos) (fCl g p) :=
  PE.imp (pe_callTy hc hg hm hv (va1 ha he) hn hdb he rfl) fun _ _ _ h => newC_run hf h
/-- a new thing as a place: not yet anybody's -/
theorem vp_f {e : Expr} {f : Sm W OT} (h : VF W X E e f) : VP W X E e (pE (eF f)) := vp_of (ve_f h)

/-! ### 2. sorted -/
def gSortL (t : OT) : Option OT := t.listI.bind fun xs => (sortL xs).map .oL
def gSortD (t : OT) : Option OT := t.dict.bind fun d => (sortL (d.2.map (·.1))).map .oL
theorem listI_rep {K : PySem.W.Frag} {F H : Hp} {A : Addr → Prop} {w : V} {p : OT} {xs : List Val} (sb : Sub F H) (ro : RepO K F H A w p) (e : p.listI = some xs) : ∃ a ws, w = .ref a ∧ H a = some (.lst ws) ∧ Reps K F ws xs := by
  unfold OT.listI at e
  split at e
  · cases e
    cases ro with
    | sh rp =>
      obtain ⟨a, ws, rfl, ha, rs⟩ := rp.seqL
      exact ⟨a, ws, rfl, sb _ _ ha, rs⟩
  · cases e
    cases ro with
    | oL ha _ rs => exact ⟨_, _, rfl, ha, rs⟩
  · cases e
theorem dict_rep {K : PySem.W.Frag} {F H : Hp} {A : Addr → Prop} {w : V} {p : OT} {t : Bool} {kvs : List (Val × Val)} (sb : Sub F H) (ro : RepO K F H A w p) (e : p.dict = some (t, kvs)) :
    ∃ a, w = .ref a ∧ ((t = false ∧ ∃ l, Rd H a (.dK l) ∧ RepP K F (l.map kK) kvs) ∨ (t = true ∧ ∃ l, Rd H a (.dT l) ∧ RepP K F (l.map kT) kvs)) := by
  rcases OT.dict_of e with rfl | rfl | rfl
  · cases ro with
    | sh rp =>
      cases rp with
      | dK h rs => exact ⟨_, rfl, .inl ⟨rfl, _, sb.rd h, rs⟩⟩
      | dT h rs => exact ⟨_, rfl, .inr ⟨rfl, _, sb.rd h, rs⟩⟩
  · cases ro with
    | oK h _ rs => exact ⟨_, rfl, .inl ⟨rfl, _, .inl h, rs⟩⟩
    | oDT h _ rs => exact ⟨_, rfl, .inr ⟨rfl, _, .inl h, rs⟩⟩
  · cases ro with
    | oRK h _ rs => exact ⟨_, rfl, .inl ⟨rfl, _, .inr ⟨_, h⟩, rs⟩⟩
    | oRT h _ rs => exact ⟨_, rfl, .inr ⟨rfl, _, .inr ⟨_, h⟩, rs⟩⟩
theorem sortL_of {vs us : List Val} (h : sortL vs = some us) : sortOk vs = true ∧ us = vs.mergeSort leV := by
  unfold sortL at h
  split at h
  · cases h; exact ⟨by assumption, rfl⟩
  · cases h
theorem new_sortL : NewC X.K (rSortL X.K) gSortL := by
  intro F H A w p t Q sb st ro e k
  unfold gSortL at e
  cases e1 : p.listI with
  | none => rw [e1] at e; cases e
  | some xs =>
    rw [e1] at e
    have e : (sortL xs).map OT.oL = some t := e
    cases e2 : sortL xs with
    | none => rw [e2] at e; cases e
    | some ys =>
      rw [e2] at e; cases e
      obtain ⟨ok, rfl⟩ := sortL_of e2
      obtain ⟨a, ws, rfl, ha, rs⟩ := listI_rep sb ro e1
      refine ⟨a, ws, xs, rfl, SqL.of ha, rs.mono sb, ok, fun q hq => k q _ hq (nd_lst _).2 (.oL upd_same rfl (sorted_rep rs))⟩
theorem new_sortD : NewC X.K (rSortD X.K) gSortD := by
  intro F H A w p t Q sb st ro e k
  unfold gSortD at e
  cases e1 : p.dict with
  | none => rw [e1] at e; cases e
  | some d =>
    obtain ⟨t0, kvs⟩ := d
    rw [e1] at e
    have e : (sortL (kvs.map (·.1))).map OT.oL = some t := e
    cases e2 : sortL (kvs.map (·.1)) with
    | none => rw [e2] at e; cases e
    | some ys =>
      rw [e2] at e; cases e
      obtain ⟨ok, rfl⟩ := sortL_of e2
      obtain ⟨a, rfl, hd⟩ := dict_rep sb ro e1
      refine ⟨a, kvs.map (·.1), rfl, ok, ?_, fun q ws hq rs => k q _ hq (nd_lst _).2 (.oL upd_same rfl (rs.mono st))⟩
      rcases hd with ⟨_, l, h, rp⟩ | ⟨_, l, h, rp⟩
      · refine .inl ⟨l, h, ?_⟩
        rw [← rp.keys, List.map_map]; rfl
      · refine .inr ⟨l, h, ?_⟩
        rw [← rp.keys, List.map_map]; rfl
theorem vf_sortL (hu : X.A.units + 64 < cLine) (hg : Gl X "sorted") (hm : X.mg "sorted" = none) (ha : VP W X E a p) (he : starEach [a] X.env = (false, eval a X.env) :: starEach [] X.env := by rfl) : VF W X E (.Call (.Name "sorted" p1) [a] [] pos) (fCl gSortL p) :=
  vf_callB (call_sortL hu) new_sortL hg hm (by rfl) ha (he := he)
theorem vf_sortD (hc : X.calm = true) (hu : X.A.units + 64 < cLine) (hg : Gl X "sorted") (hm : X.mg "sorted" = none) (ha : VP W X E a p) (he : starEach [a] X.env = (false, eval a X.env) :: starEach [] X.env := by rfl) : VF W X E (.Call (.Name "sorted" p1) [a] [] pos) (fCl gSortD p) :=
  vf_callB (call_sortD hc hu) new_sortD hg hm (by rfl) ha (he := he)

/-! ### 3. xs + ys -/
def fCat (p q : Sm W OT) : Sm W OT := fun ρ s => (p ρ s).bind fun t s1 => (q ρ s1).bind fun u s2 => match t.listI, u.listI with
  | some xs, some ys => if xs.length + ys.length ≤ sizeLine then .ok (.oL (xs ++ ys)) s2 else .bad
  | _, _ => .bad
theorem vf_cat {q : Sm W OT} (ha : VP W X E a p) (hb : VP W X E b q) : VF W X E (.BinOp a .Add b pos) (fCat p q) := PE.imp (pe_op op_cat ha hb) fun σ H Q hq => by
  have h' := seq2 (P := pP X.K) (P' := pP X.K) (P2 := pF X.K) (f := p) (f2 := q) (g := fun t u _ s2 => match t.listI, u.listI with
    | some xs, some ys => if xs.length + ys.length ≤ sizeLine then .ok (.oL (xs ++ ys)) s2 else .bad
    | _, _ => .bad) pF.back pP.keeps hq
  refine h'.mono fun w H1 k1 => k1.mono ?_
  clear h' hq
  rintro u H2 ⟨G, ρ, s, t, t2, r, ⟨A, ro, hA⟩, ⟨A2, ro2, hA2⟩, h'⟩
  split at h'
  · rename_i xs ys e1 e2
    split at h'
    · rename_i hz
      obtain ⟨l, ws, rfl, hl, rs⟩ := listI_rep r.sub ro e1
      obtain ⟨l2, us, rfl, hl2, rs2⟩ := listI_rep r.sub ro2 e2
      refine ⟨l, l2, ws, us, rfl, rfl, hl, hl2, by rw [rs.length, rs2.length]; exact hz, fun p hp => ?_⟩
      obtain ⟨x2, r2, p2⟩ := pF.new (o := .lst (ws ++ us)) (t := .oL (xs ++ ys)) r hp (nd_lst _).2 (.oL upd_same rfl (rs.append rs2))
      exact h' _ _ _ x2 r2 p2
    · exact h'.elim
  · exact h'.elim

/-! ### 4. dict(d) -/
/-- the hash of a tuple of whole numbers -/
def ksHash (ks : List Key) : Option (List Int) := match ks with
  | [] => some []
  | .inl i :: r => (ksHash r).map fun hs => hashInt i :: hs
  | .inr _ :: _ => none
def vHash (v : Val) : Option Int := match dkey v with
  | some (.inr ks) => (ksHash ks).map fun hs => reduceHash (Builtin.Tuple.tupleHashOf hs)
  | _ => none
theorem ksHash_of (w : World) (prog : Program) : ∀ {ks : List Key} {hs : List Int}, ksHash ks = some hs → ks.map (mixKind prog w).hash = hs
  | [], _, e => by cases e; rfl
  | .inl i :: r, hs, e => by
    have e : (ksHash r).map (fun hs => hashInt i :: hs) = some hs := e
    cases q : ksHash r with
    | none => rw [q] at e; cases e
    | some h => rw [q] at e; cases e; rw [List.map_cons, ksHash_of w prog q]; rfl
  | .inr _ :: _, _, e => by cases e
theorem vHash_of (w : World) (prog : Program) {ks : List Key} {h : Int} (e : vHash (.tup (ks.map kVal)) = some h) : (tupleKind (mixKind prog w)).hash ks = h := by
  unfold vHash at e
  rw [dkey_t] at e
  have e : (ksHash ks).map (fun hs => reduceHash (Builtin.Tuple.tupleHashOf hs)) = some h := e
  cases q : ksHash ks with
  | none => rw [q] at e; cases e
  | some hs => rw [q] at e; cases e; show tupleKeyHash (mixKind prog w) ks = _; unfold tupleKeyHash; rw [ksHash_of w prog q]
/-- the keys hash apart -/
def apart (ks : List Val) : Bool := ks.all (fun k => (vHash k).isSome) && decide ((ks.map vHash).Nodup)
theorem nodup_back {α : Type} {f : α → Int} {g : α → Option Int} : ∀ {l : List α}, (∀ a ∈ l, g a = some (f a)) → (l.map g).Nodup → (l.map f).Nodup
  | [], _, _ => by simp
  | a :: l, h, n => by
    rw [List.map_cons, List.nodup_cons] at n ⊢
    refine ⟨fun z => n.1 ?_, nodup_back (fun b hb => h b (List.mem_cons_of_mem _ hb)) n.2⟩
    obtain ⟨b, hb, e⟩ := List.mem_map.mp z
    rw [h a List.mem_cons_self, ← e, ← h b (List.mem_cons_of_mem _ hb)]
    exact List.mem_map.mpr ⟨b, hb, rfl⟩
/-- dict(d), keys tuples of whole numbers -/
def rCopyT : List V → Hp → VK → Prop := fun xs H Q => ∃ (a : Addr) (l : List (List Key × V)), xs = [.ref a] ∧ Rd H a (.dT l) ∧ apart (l.map fun p => .tup (p.1.map kVal)) = true ∧ ∀ p, H p = none → Q (.ref p) (upd H p (.dT l))
theorem kt_typeIs {pins : List (Addr × Obj)} {σ : L2.St} {H : Hp} {s : Shared} (I : Inv X pins σ H s) {l : List (List Key × V)} {xs : List (List Key × Addr × Value)} (kt : KT H l xs) : ∀ x ∈ xs, s.TypeIs (.ref x.2.1) "tuple" := by
  induction kt with
  | nil => intro x hx; cases hx
  | cons h _ ih =>
    intro x hx
    rcases List.mem_cons.mp hx with rfl | hx
    · obtain ⟨its, rv, ⟨o, g, c, n, d⟩, _⟩ := I.tuple (SqT.of h.2.1)
      exact ⟨o, g, c⟩
    · exact ih x hx
theorem kt_fst {H : Hp} {l : List (List Key × V)} {xs : List (List Key × Addr × Value)} (kt : KT H l xs) : xs.map (·.1) = l.map (·.1) := by
  induction kt with
  | nil => rfl
  | cons h _ ih => rw [List.map_cons, List.map_cons, ih, h.1]
theorem kt_is {pins : List (Addr × Obj)} {σ : L2.St} {H : Hp} {s : Shared} (I : Inv X pins σ H s) {l : List (List Key × V)} {xs : List (List Key × Addr × Value)} (kt : KT H l xs) : ∀ y ∈ xs, (tupleKind (mixKind X.prog X.w)).is s.heap y.1 y.2.1 := by
  induction kt with
  | nil => intro x hx; cases hx
  | cons h _ ih =>
    intro x hx
    rcases List.mem_cons.mp hx with rfl | hx
    · exact key_of I.hok (by rw [← h.1]; exact h.2.1)
    · exact ih x hx
theorem call_copyT (hu : X.A.units + 64 < cLine) : CallR X (.type "dict") rCopyT := by
  intro pins s σ H xs us Q I r h
  obtain ⟨a, l, rfl, hd, hap, q⟩ := h
  obtain ⟨u, rfl, rx⟩ := vals1 r
  obtain rfl : u = .ref a := rx
  obtain ⟨hz, lo, es, kt, dd⟩ := dt_rd I.hok hd
  have el : l.length = es.length := Paired.length kt
  have nd : (es.map fun x => (tupleKind (mixKind X.prog X.w)).hash x.1).Nodup := by
    have e1 : (es.map fun x => (tupleKind (mixKind X.prog X.w)).hash x.1) = (l.map (·.1)).map (tupleKind (mixKind X.prog X.w)).hash := by
      have := kt_fst kt
      rw [← this, List.map_map]; rfl
    rw [e1]
    unfold apart at hap
    rw [Bool.and_eq_true] at hap
    have h2 := of_decide_eq_true hap.2
    rw [List.map_map] at h2
    have h3 : (l.map (·.1)).map (fun ks => vHash (.tup (ks.map kVal))) = l.map (vHash ∘ fun p => Val.tup (p.1.map kVal)) := by rw [List.map_map]; rfl
    rw [← h3] at h2
    refine nodup_back (fun ks hk => ?_) h2
    rw [List.all_eq_true] at hap
    obtain ⟨p, hp, rfl⟩ := List.mem_map.mp hk
    have := hap.1 _ (List.mem_map.mpr ⟨p, hp, rfl⟩)
    cases q : vHash (.tup (p.1.map kVal)) with
    | none => rw [q] at this; cases this
    | some h => rw [vHash_of X.w X.prog q]
  have dn : (es.map (·.1)).Nodup := dd.nodup
  have fr : H s.heap.objs.size = none := I.hok.fresh (Nat.le_refl _)
  have hm : (s.heap.objs.size == sysModules) = false := beq_eq_false_iff_ne.mpr (Nat.ne_of_gt I.big)
  have hT : Shared.TypeIs { s with heap := s.heap.push { cls := .type "dict", data := .dict #[] } } (.ref s.heap.objs.size) "dict" := ⟨_, Heap.get?_push_size _ rfl, rfl⟩
  refine callType_codes (Q₁ := fun obj s₁ => obj = .ref s.heap.objs.size ∧ s₁ = { s with heap := s.heap.push { cls := .type "dict", data := .dict #[] } }) F.kt_called_dict (F.kt_typeCall_dict_1 _) F.entry_dict_init (kt_code_dict_new _ ⟨rfl, rfl⟩) ?_
  rintro obj s₁ ⟨rfl, rfl⟩
  refine ⟨hT, F.args_dict_init_2 _ _, ?_⟩
  unfold Builtin.«dict.__init__»
  refine wpAny_bind ?_
  unfold Builtin.Dict.selfAndRest
  refine wpAny_bind (wpAny_notOrdered_dict hT ?_)
  refine wpAny_pure ?_
  have I1 : Inv X pins σ H { s with heap := s.heap.push { cls := .type "dict", data := .dict #[] } } := I.kept (t' := s.toks) fun b o e => Heap.get?_push_of_some _ e
  have d0 : (s.heap.push { cls := .type "dict", data := .dict #[] }).DictOfH (tupleKind (mixKind X.prog X.w)) s.heap.objs.size [] := Heap.DictOfH.new s.heap
  have d1 : (s.heap.push { cls := .type "dict", data := .dict #[] }).DictOfH (tupleKind (mixKind X.prog X.w)) a es := dd.at' (fun o e => Heap.get?_push_of_some _ e) (kt_is I1 kt)
  have hne : s.heap.objs.size ≠ a := fun e => by
    have := dd.lt_size
    rw [← e] at this
    exact Nat.lt_irrefl _ this
  refine updateFrom_dictH (A := X.A.in1) (knd := tupleKind (mixKind X.prog X.w)) (s := { s with heap := s.heap.push { cls := .type "dict", data := .dict #[] } }) .none (show X.A.units + 2 < cLine by omega) hne lo d0 d1 (.inr ⟨kt_typeIs I1 kt, nd⟩) (by show 0 + es.length ≤ sizeLine; omega) fun h' hd' _ hs => ?_
  rw [storedAllH_nil_of_nodup es dn] at hd'
  obtain ⟨o', es', ep', ho', g2, g3, g4, _, g5⟩ := hd'
  refine ⟨rfl, .ref s.heap.objs.size, _, I.laid (t' := s.toks) (o := .dT l) (fun b u e => (hs.2 b (Nat.ne_of_lt (Heap.lt_size e))).trans (Heap.get?_push_of_some _ e)) (Nat.le_refl _) ⟨hz, hm, es, kt.keeps fun c ys ec => ?_, o', es', ep', ho', g2, g3, g4, g5⟩, rfl, q _ fr⟩
  rw [upd_ne (ne_of_none ec fr)]
  exact ec
def rCopy : List V → Hp → VK → Prop := fun xs H Q => (∃ (a : Addr) (kvs : List (Key × V)), xs = [.ref a] ∧ Rd H a (.dK kvs) ∧ ∀ p, H p = none → Q (.ref p) (upd H p (.dK kvs))) ∨ rCopyT xs H Q
def gCopy (t : OT) : Option OT := t.dict.bind fun d => if d.1 = false ∨ apart (d.2.map (·.1)) = true then some (.oD d.1 d.2) else none
theorem new_copy : NewC X.K rCopy gCopy := by
  intro F H A w p t Q sb st ro e k
  unfold gCopy at e
  cases e1 : p.dict with
  | none => rw [e1] at e; cases e
  | some d =>
    obtain ⟨b, kvs⟩ := d
    rw [e1] at e
    have e : (if b = false ∨ apart (kvs.map (·.1)) = true then some (OT.oD b kvs) else none) = some t := e
    split at e
    · rename_i hb
      cases e
      obtain ⟨a, rfl, hd⟩ := dict_rep sb ro e1
      rcases hd with ⟨rfl, l, h, rp⟩ | ⟨rfl, l, h, rp⟩
      · exact .inl ⟨a, l, rfl, h, fun q hq => k q _ hq (fun _ z => (by cases z)) (.oK upd_same rfl rp)⟩
      · refine .inr ⟨a, l, rfl, h, ?_, fun q hq => k q _ hq (fun _ z => (by cases z)) (.oDT upd_same rfl rp)⟩
        rcases hb with hb | hb
        · cases hb
        · rw [← rp.keys, List.map_map] at hb
          exact hb
    · cases e
theorem vf_copy (hu : X.A.units + 64 < cLine) (hg : Gl X "dict") (hm : X.mg "dict" = none) (ha : VP W X E a p) (he : starEach [a] X.env = (false, eval a X.env) :: starEach [] X.env := by rfl) : VF W X E (.Call (.Name "dict" p1) [a] [] pos) (fCl gCopy p) :=
  vf_callT (call_dictD.or (call_copyT hu)) new_copy hg hm (by rfl) ha (he := he)

/-! ### 5. dict of a list of pairs -/
def pairsV (b : Bool) : List Val → List (Val × Val) → Option (List (Val × Val))
  | [], acc => some acc
  | .tup [k, v] :: r, acc => match dkey k with
    | some d => if DK.isT d = b then pairsV b r (vput acc k d v) else none
    | none => none
  | _ :: _, _ => none
def gPairs (b : Bool) (t : OT) : Option OT := t.listI.bind fun ps => (pairsV b ps []).map (.oD b)
theorem pairsK {K : PySem.W.Frag} {F : Hp} : ∀ {ps : List Val} {ws : List V} {acc : List (Val × Val)} {out : List (Val × Val)} {l : List (Key × V)}, Reps K F ws ps → pairsV false ps acc = some out → RepP K F (l.map kK) acc →
    ∃ (as : List Addr) (l' : List (Key × V)), ws = as.map V.ref ∧ Paired (fun p kv => F p = some (.tup [kV kv.1, kv.2])) as l' ∧ RepP K F ((mergeK l l').map kK) out
  | [], _, acc, out, l, .nil, e, rp => by cases e; exact ⟨[], [], rfl, .nil, rp⟩
  | v :: ps, _, acc, out, l, .cons r rs, e, rp => by
    unfold pairsV at e
    split at e
    · rename_i heq
      cases heq
    · rename_i k0 v0 r0 heq
      cases heq
      split at e
      · rename_i d ed
        split at e
        · rename_i hb
          obtain ⟨a, us, rfl, ha, rt⟩ := r.seqT
          obtain ⟨w1, w2, rfl, r1, r2⟩ := rt.two
          rcases r1.key ed with ⟨kk, rfl, rfl, rfl⟩ | ⟨ks, c, rfl, _⟩
          · obtain ⟨as, l', e1, h1, h2⟩ := pairsK rs e (RepP.put (e := kVal) (c := Sum.inl) (l := l) dkey_k inl_inj kk r2 rp)
            exact ⟨a :: as, (kk, w2) :: l', by rw [e1]; rfl, .cons ha h1, h2⟩
          · cases hb
        · cases e
      · cases e
    · cases e
structure RowT where
  p : Addr
  ks : List Key
  b : Addr
  z : V
theorem pairsT {K : PySem.W.Frag} {F : Hp} : ∀ {ps : List Val} {ws : List V} {acc : List (Val × Val)} {out : List (Val × Val)} {l : List (List Key × V)}, Reps K F ws ps → pairsV true ps acc = some out → RepP K F (l.map kT) acc →
    ∃ (rows : List RowT), ws = rows.map (fun r => V.ref r.p) ∧ (∀ r ∈ rows, F r.p = some (.tup [.ref r.b, r.z]) ∧ F r.b = some (.tup (r.ks.map kV))) ∧ RepP K F ((rows.foldl (fun m r => putK m r.ks r.z) l).map kT) out
  | [], _, acc, out, l, .nil, e, rp => by cases e; exact ⟨[], rfl, fun _ h => (by cases h), rp⟩
  | v :: ps, _, acc, out, l, .cons r rs, e, rp => by
    unfold pairsV at e
    split at e
    · rename_i heq
      cases heq
    · rename_i k0 v0 r0 heq
      cases heq
      split at e
      · rename_i d ed
        split at e
        · rename_i hb
          obtain ⟨a, us, rfl, ha, rt⟩ := r.seqT
          obtain ⟨w1, w2, rfl, r1, r2⟩ := rt.two
          rcases r1.key ed with ⟨kk, rfl, _⟩ | ⟨ks, c, rfl, rfl, hc, rfl⟩
          · cases hb
          · obtain ⟨rows, e1, h1, h2⟩ := pairsT rs e (RepP.put (κ := List Key) (e := fun ks => Val.tup (ks.map kVal)) (c := Sum.inr) (l := l) dkey_t inr_inj ks r2 rp)
            refine ⟨⟨a, ks, c, w2⟩ :: rows, by rw [e1]; rfl, fun r hr => ?_, h2⟩
            rcases List.mem_cons.mp hr with rfl | hr
            · exact ⟨ha, hc⟩
            · exact h1 r hr
        · cases e
      · cases e
    · cases e
def rPairsT (K : PySem.W.Frag) : List V → Hp → VK → Prop := fun xs H Q => ∃ (a : Addr) (rows : List RowT), xs = [.ref a] ∧ SqL K H a (rows.map fun r => V.ref r.p) ∧ (∀ r ∈ rows, H r.p = some (.tup [.ref r.b, r.z]) ∧ H r.b = some (.tup (r.ks.map kV))) ∧
  ∀ p, H p = none → Q (.ref p) (upd H p (.dT (rows.foldl (fun m r => putK m r.ks r.z) [])))
theorem fold_len : ∀ (rows : List RowT) (l : List (List Key × V)), (rows.foldl (fun m r => putK m r.ks r.z) l).length ≤ l.length + rows.length
  | [], l => by simp
  | r :: rows, l => by
    have h1 := fold_len rows (putK l r.ks r.z)
    have h2 := length_putK l r.ks r.z
    rw [List.foldl_cons, List.length_cons]
    omega
theorem row_vals {pins : List (Addr × Obj)} {σ : L2.St} {H : Hp} {s : Shared} (I : Inv X pins σ H s) : ∀ {rows : List RowT}, (∀ r ∈ rows, H r.p = some (.tup [.ref r.b, r.z]) ∧ H r.b = some (.tup (r.ks.map kV))) →
    ∃ us : List Value, us.length = rows.length ∧ ∀ (j : Nat) (r : RowT), rows[j]? = some r → ∃ u, us[j]? = some u ∧ RelV r.z u ∧ s.heap.IsTuple r.p #[.ref r.b, u]
  | [], _ => ⟨[], rfl, fun j r e => by simp at e⟩
  | r :: rows, h => by
    obtain ⟨us, h1, h2⟩ := row_vals I fun r hr => h r (List.mem_cons_of_mem _ hr)
    obtain ⟨ha, hb⟩ := h r List.mem_cons_self
    obtain ⟨its, rv, p, _⟩ := I.tuple (SqT.of ha)
    obtain ⟨u1, u2, rfl, q1, q2⟩ := vals2 rv
    cases q1
    refine ⟨u2 :: us, by simp [h1], fun j r' e => ?_⟩
    cases j with
    | zero => cases e; exact ⟨u2, rfl, q2, (show s.heap.IsTuple r.p [Value.ref r.b, u2].toArray from p)⟩
    | succ j => exact h2 j r' (by simpa using e)
theorem kt_fold {H : Hp} : ∀ {rows : List RowT} {us : List Value} {l : List (List Key × V)} {xs : List (List Key × Addr × Value)}, us.length = rows.length → (∀ r ∈ rows, H r.b = some (.tup (r.ks.map kV))) → (∀ (j : Nat) (r : RowT), rows[j]? = some r → ∃ u, us[j]? = some u ∧ RelV r.z u) → KT H l xs →
    KT H (rows.foldl (fun m r => putK m r.ks r.z) l) (storedAllH xs ((rows.zip us).map fun p => (p.1.ks, p.1.b, p.2)))
  | [], us, l, xs, _, _, _, kt => kt
  | r :: rows, [], l, xs, hl, _, _, kt => by cases hl
  | r :: rows, u :: us, l, xs, hl, hb, hu, kt => by
    rw [List.foldl_cons, List.zip_cons_cons, List.map_cons]
    have e : storedAllH xs ((r.ks, r.b, u) :: (rows.zip us).map fun p => (p.1.ks, p.1.b, p.2)) = storedAllH (storedH xs r.ks r.b u) ((rows.zip us).map fun p => (p.1.ks, p.1.b, p.2)) := rfl
    rw [e]
    obtain ⟨u', e1, r1⟩ := hu 0 r rfl
    have e1 : u = u' := by simpa using e1
    subst e1
    exact kt_fold (by simpa using hl) (fun r hr => hb r (List.mem_cons_of_mem _ hr)) (fun j r' e => by simpa using hu (j + 1) r' (by simpa using e)) (kt.put r.ks (hb r List.mem_cons_self) r1)
theorem call_pairsT (hc : X.calm = true) (hu : X.A.units + 64 < cLine) : CallR X (.type "dict") (rPairsT X.K) := by
  intro pins s σ H xs us Q I r h
  obtain ⟨a, rows, rfl, hl, hr, q⟩ := h
  obtain ⟨u, rfl, rx⟩ := vals1 r
  obtain rfl : u = .ref a := rx
  obtain ⟨us, hus, hrow⟩ := row_vals I hr
  obtain ⟨its, rv, ⟨o, n, ho, hcl, hnd, hdat⟩, hz⟩ := I.list hl
  rw [List.length_map] at hz
  have fr : H s.heap.objs.size = none := I.hok.fresh (Nat.le_refl _)
  have hm : (s.heap.objs.size == sysModules) = false := beq_eq_false_iff_ne.mpr (Nat.ne_of_gt I.big)
  have hits : ∀ (j : Nat) (r : RowT), rows[j]? = some r → its.toArray[j]? = some (.ref r.p) := fun j r e => by
    have : ∀ {rows : List RowT} {its : List Value}, Vals (rows.map fun r => V.ref r.p) its → ∀ (j : Nat) (r : RowT), rows[j]? = some r → its[j]? = some (.ref r.p) := by
      intro rows
      induction rows with
      | nil => intro its _ j r e; simp at e
      | cons r0 rows ih =>
        intro its rv j r e
        cases rv with
        | cons h t =>
          cases h
          cases j with
          | zero => cases e; rfl
          | succ j => exact ih t j r (by simpa using e)
    simpa using this rv j r e
  have len1 : its.length = rows.length := by have := rv.length; rw [List.length_map] at this; exact this.symm
  have zipAt : ∀ (j : Nat) (r : RowT), rows[j]? = some r → ∃ u, us[j]? = some u ∧ (rows.zip us)[j]? = some (r, u) := fun j r e => by
    obtain ⟨u, h1, _⟩ := hrow j r e
    exact ⟨u, h1, by rw [List.getElem?_zip_eq_some]; exact ⟨e, h1⟩⟩
  have zl : (rows.zip us).length = rows.length := by rw [List.length_zip]; omega
  have P := PairArg.list (prog := X.prog) (w := X.w) a its.toArray (fun j => ((rows[j]?).map (·.p)).getD 0) ((rows.zip us).map fun p => (Value.ref p.1.b, p.2))
  have ok : PlainSeq "list" s.heap a its.toArray ∧ PairItems s.heap its.toArray (fun j => ((rows[j]?).map (·.p)).getD 0) ((rows.zip us).map fun p => (Value.ref p.1.b, p.2)) := by
    refine ⟨⟨o, n, ho, hcl, hnd, hdat⟩, by simp [len1, hus], fun j k v e => ?_⟩
    rw [List.getElem?_map] at e
    cases ez : (rows.zip us)[j]? with
    | none => rw [ez] at e; cases e
    | some p =>
      rw [ez] at e; cases e
      obtain ⟨e1, e2⟩ := List.getElem?_zip_eq_some.mp ez
      obtain ⟨u, h1, h2, h3⟩ := hrow j p.1 e1
      rw [e2] at h1; cases h1
      refine ⟨?_, .inl ?_⟩
      · rw [hits j p.1 e1]
        show some (Value.ref p.1.p) = some (Value.ref (((rows[j]?).map (·.p)).getD 0))
        rw [e1]; rfl
      · show s.heap.IsTuple (((rows[j]?).map (·.p)).getD 0) _
        rw [e1]; exact h3
  refine PySem.call_dict_pairsH (knd := tupleKind (mixKind X.prog X.w)) (ps := (rows.zip us).map fun p => (p.1.ks, p.1.b, p.2)) P (I.ok.hd hc) (show X.A.units + 2 < cLine by omega) ok ⟨by simp, fun i key v e => ?_⟩ (fun h' hk x hx => ?_) (by rw [List.length_map, zl]; exact hz) fun h' tk hd' hk => ?_
  · have e : ((rows.zip us).map fun p => (Value.ref p.1.b, p.2))[i]? = some (key, v) := e
    rw [List.getElem?_map] at e
    cases ez : (rows.zip us)[i]? with
    | none => rw [ez] at e; cases e
    | some p => rw [ez] at e; cases e; exact ⟨p.1.ks, p.1.b, by rw [List.getElem?_map, ez]; rfl, rfl⟩
  · have I1 : Inv X pins σ H { s with heap := h' } := I.kept (t' := s.toks) fun b o e => hk b o (Nat.ne_of_lt (Heap.lt_size e)) (by simp) e
    obtain ⟨p, hp, rfl⟩ := List.mem_map.mp hx
    exact key_of I1.hok (hr p.1 (List.of_mem_zip (a := p.1) (b := p.2) hp).1).2
  · obtain ⟨o', es', ep', ho', g2, g3, g4, _, g5⟩ := hd'
    have kt := kt_fold (H := H) (rows := rows) (us := us) (l := []) (xs := []) hus (fun r hr' => (hr r hr').2) (fun j r e => let ⟨u, h1, h2, _⟩ := hrow j r e; ⟨u, h1, h2⟩) .nil
    have hlen : (rows.foldl (fun m r => putK m r.ks r.z) []).length ≤ sizeLine := by have := fold_len rows []; simp at this; omega
    refine ⟨.ref s.heap.objs.size, _, I.laid (t' := tk) (o := .dT (rows.foldl (fun m r => putK m r.ks r.z) [])) (fun b u e => hk b u (by simp) e) (Nat.le_refl _) ⟨hlen, hm, _, kt.keeps fun c ys ec => ?_, o', es', ep', ho', g2, g3, g4, g5⟩, rfl, q _ fr⟩
    rw [upd_ne (ne_of_none ec fr)]
    exact ec
def rPairsK (K : PySem.W.Frag) : List V → Hp → VK → Prop := fun xs H Q => ∃ (a : Addr) (ps : List Addr) (kvs : List (Key × V)), xs = [.ref a] ∧ SqL K H a (ps.map V.ref) ∧ Paired (fun p kv => SqT K H p [kV kv.1, kv.2]) ps kvs ∧ ∀ p, H p = none → Q (.ref p) (upd H p (.dK (mergeK [] kvs)))
theorem new_pairsK : NewC X.K (rPairsK X.K) (gPairs false) := by
  intro F H A w p t Q sb st ro e k
  unfold gPairs at e
  cases e1 : p.listI with
  | none => rw [e1] at e; cases e
  | some ps =>
    rw [e1] at e
    have e : (pairsV false ps []).map (OT.oD false) = some t := e
    cases e2 : pairsV false ps [] with
    | none => rw [e2] at e; cases e
    | some out =>
      rw [e2] at e; cases e
      obtain ⟨a, ws, rfl, ha, rs⟩ := listI_rep sb ro e1
      obtain ⟨as, l', rfl, h1, h2⟩ := pairsK (l := []) rs e2 .nil
      exact ⟨a, as, l', rfl, SqL.of ha, Paired.mapP h1 fun _ _ z => SqT.of (sb _ _ z), fun q hq => k q _ hq (fun _ z => (by cases z)) (.oK upd_same rfl h2)⟩
theorem new_pairsT : NewC X.K (rPairsT X.K) (gPairs true) := by
  intro F H A w p t Q sb st ro e k
  unfold gPairs at e
  cases e1 : p.listI with
  | none => rw [e1] at e; cases e
  | some ps =>
    rw [e1] at e
    have e : (pairsV true ps []).map (OT.oD true) = some t := e
    cases e2 : pairsV true ps [] with
    | none => rw [e2] at e; cases e
    | some out =>
      rw [e2] at e; cases e
      obtain ⟨a, ws, rfl, ha, rs⟩ := listI_rep sb ro e1
      obtain ⟨rows, rfl, h1, h2⟩ := pairsT (l := []) rs e2 .nil
      exact ⟨a, rows, rfl, SqL.of ha, fun r hr => ⟨sb _ _ (h1 r hr).1, sb _ _ (h1 r hr).2⟩, fun q hq => k q _ hq (fun _ z => (by cases z)) (.oDT upd_same rfl h2)⟩
theorem vf_pairs (t : Bool) (hc : X.calm = true) (hu : X.A.units + 64 < cLine) (hg : Gl X "dict") (hm : X.mg "dict" = none) (ha : VP W X E a p) (he : starEach [a] X.env = (false, eval a X.env) :: starEach [] X.env := by rfl) : VF W X E (.Call (.Name "dict" p1) [a] [] pos) (fCl (gPairs t) p) := by
  cases t with
  | false => exact vf_callT (call_dictP hc) new_pairsK hg hm (by rfl) ha (he := he)
  | true => exact vf_callT (call_pairsT hc hu) new_pairsT hg hm (by rfl) ha (he := he)
end
end VL

/-! VL17: displays of dicts and of own things; list of a dict's items; repr. -/
namespace VL
open PySem PySem.Spec PyProof.Rows L2
section
variable {W : Wo} {X : Cx} {E : WX}
/-! ### 1. {k: v, ..} -/
def dispS : List (Ev W × Ev W) → Sm W (List (Val × Val))
  | [], _, s => .ok [] s
  | (k, v) :: r, ρ, s => (k ρ s).bind fun x s1 => (v ρ s1).bind fun y s2 => (dispS r ρ s2).bind fun ps s3 => .ok ((x, y) :: ps) s3
def putAllV (b : Bool) : List (Val × Val) → List (Val × Val) → Option (List (Val × Val))
  | [], acc => some acc
  | (k, v) :: r, acc => match dkey k with
    | some d => if DK.isT d = b ∧ acc.length < sizeLine then putAllV b r (vput acc k d v) else none
    | none => none
def fDisp (b : Bool) (prs : List (Ev W × Ev W)) : Sm W OT := fun ρ s => (dispS prs ρ s).bind fun ps s1 => match putAllV b ps [] with
  | some kvs => .ok (.oD b kvs) s1
  | none => .bad
abbrev trsOf (X : Cx) (E : WX) (prs : List (Ev W × Ev W)) : List (TE × TE) := prs.map fun p => (tG W X.K E (pV X.K) p.1, tG W X.K E (pV X.K) p.2)
def VPs (W : Wo) (X : Cx) (E : WX) (pos : Pos) (keys : List (Option Expr)) (values : List Expr) (prs : List (Ev W × Ev W)) : Prop := PPs X pos keys values (trsOf X E prs)
variable {pos : Pos} {k v : Expr} {ks : List (Option Expr)} {vs : List Expr} {fk fv : Ev W} {prs : List (Ev W × Ev W)}
theorem vps_nil : VPs W X E pos [] [] [] := pps_nil
theorem vps_cons (hk : VE W X E k fk) (hv : VE W X E v fv) (hr : VPs W X E pos ks vs prs) : VPs W X E pos (some k :: ks) (v :: vs) ((fk, fv) :: prs) := pps_cons hk hv hr
inductive Rep2 (K : PySem.W.Frag) (F : Hp) : List (V × V) → List (Val × Val) → Prop
  | nil : Rep2 K F [] []
  | cons {w z : V} {k v : Val} {l : List (V × V)} {m : List (Val × Val)} : Rep K F w k → Rep K F z v → Rep2 K F l m → Rep2 K F ((w, z) :: l) ((k, v) :: m)
theorem Rep2.mono {K : PySem.W.Frag} {F F' : Hp} (s : Sub F F') {l : List (V × V)} {m : List (Val × Val)} (h : Rep2 K F l m) : Rep2 K F' l m := by
  induction h with
  | nil => exact .nil
  | cons r1 r2 _ ih => exact .cons (r1.mono s) (r2.mono s) ih
theorem disp_run {α γ : Type} {P : RP γ α} {ρ : En} {σ : L2.St} {Ga : Gh} {Ha : Hp} {Q : γ → Hp → Prop} : ∀ {prs : List (Ev W × Ev W)} {kf : List (Val × Val) → W.S → R W.S α} {G : Gh} {s : W.S} {H : Hp} {Q2 : List (V × V) → Hp → Prop}, Nx Ga G Ha H → Rel W X.K G ρ s σ H →
    Pst W X.K E P Ga ρ σ Ha ((dispS prs ρ s).bind kf) Q → (∀ G2 s2 H2 ps m, Nx G G2 H H2 → Rel W X.K G2 ρ s2 σ H2 → Rep2 X.K G2.F ps m → Pst W X.K E P Ga ρ σ Ha (kf m s2) Q → Q2 ps H2) → tPairs (trsOf X E prs) σ H Q2
  | [], kf, G, s, H, Q2, xa, r, h, k => k G s H [] [] (Nx.refl _ _) r .nil h
  | (fk, fv) :: prs, kf, G, s, H, Q2, xa, r, h, k => by
    have e : (dispS ((fk, fv) :: prs) ρ s).bind kf = (fk ρ s).bind fun x s1 => (fv ρ s1).bind fun y s2 => (dispS prs ρ s2).bind fun ps s3 => kf ((x, y) :: ps) s3 := by
      show ((fk ρ s).bind fun x s1 => (fv ρ s1).bind fun y s2 => (dispS prs ρ s2).bind fun ps s3 => .ok ((x, y) :: ps) s3).bind kf = _
      cases fk ρ s with
      | ok x s1 =>
        show ((fv ρ s1).bind fun y s2 => (dispS prs ρ s2).bind fun ps s3 => .ok ((x, y) :: ps) s3).bind kf = (fv ρ s1).bind _
        cases fv ρ s1 with
        | ok y s2 =>
          show ((dispS prs ρ s2).bind fun ps s3 => .ok ((x, y) :: ps) s3).bind kf = (dispS prs ρ s2).bind _
          cases dispS prs ρ s2 <;> rfl
        | exc c n s2 => rfl
        | bad => rfl
      | exc c n s1 => rfl
      | bad => rfl
    rw [e] at h
    cases ek : fk ρ s with
    | bad => rw [ek] at h; exact h.elim
    | exc c n s1 =>
      rw [ek] at h
      refine tG.mk (P := fun _ => pV X.K H) r ?_
      show Pst W X.K E (pV X.K H) G ρ σ H (fk ρ s) _
      rw [ek]
      exact fun G1 H1 d x1 r1 e1 => h G1 H1 d (xa.trans x1) r1 e1
    | ok x s1 =>
      rw [ek] at h
      refine tG.mk (P := fun _ => pV X.K H) r ?_
      show Pst W X.K E (pV X.K H) G ρ σ H (fk ρ s) _
      rw [ek]
      intro G1 H1 w x1 r1 p1
      have h : Pst W X.K E P Ga ρ σ Ha ((fv ρ s1).bind fun y s2 => (dispS prs ρ s2).bind fun ps s3 => kf ((x, y) :: ps) s3) Q := h
      cases ev : fv ρ s1 with
      | bad => rw [ev] at h; exact h.elim
      | exc c n s2 =>
        rw [ev] at h
        refine tG.mk (P := fun _ => pV X.K H1) r1 ?_
        show Pst W X.K E (pV X.K H1) G1 ρ σ H1 (fv ρ s1) _
        rw [ev]
        exact fun G2 H2 d x2 r2 e2 => h G2 H2 d (xa.trans (x1.trans x2)) r2 e2
      | ok y s2 =>
        rw [ev] at h
        refine tG.mk (P := fun _ => pV X.K H1) r1 ?_
        show Pst W X.K E (pV X.K H1) G1 ρ σ H1 (fv ρ s1) _
        rw [ev]
        intro G2 H2 z x2 r2 p2
        refine disp_run (kf := fun ps s3 => kf ((x, y) :: ps) s3) (xa.trans (x1.trans x2)) r2 h fun G3 s3 H3 ps m x3 r3 rp h3 => ?_
        have p1 : Rep X.K G1.F w x := p1
        have p2 : Rep X.K G2.F z y := p2
        exact k G3 s3 H3 _ _ (x1.trans (x2.trans x3)) r3 (.cons (p1.mono (x2.sub.trans x3.sub)) (p2.mono x3.sub) rp) h3
/-- the pairs are stored -/
def StAll (D : Addr) (Q : Hp → Prop) : List (V × V) → Hp → Prop
  | [], H => Q H
  | (y, z) :: r, H => ∃ H', DPut H D y z H' ∧ StAll D Q r H'
theorem stAll_run {pins : List (Addr × Obj)} {σ : L2.St} (hu : X.A.units < cLine) {D : Addr} {Q : Hp → Prop} {Er : Value → Shared → Prop} : ∀ {ps : List (V × V)} {us : List (Value × Value)} {H : Hp} {s : Shared}, VV ps us → Inv X pins σ H s → StAll D Q ps H →
    wpAny (model X.prog X.w) X.A (storeAll D us) (fun _ s' => ∃ H', Inv X pins σ H' s' ∧ Q H') Er s
  | [], _, H, s, .nil, I, h => by
    unfold storeAll
    exact wpAny_pure ⟨H, I, h⟩
  | (y, z) :: ps, _, H, s, .cons (b := b) r t, I, ⟨H', dp, h⟩ => by
    obtain ⟨u1, u2⟩ := b
    unfold storeAll
    rw [List.forIn_cons]
    refine wpAny_bind (wpAny_bind (dset_run hu I dp r.1 r.2 fun s' I' => wpAny_pure ?_))
    exact stAll_run hu t I' h
def tDispV (o0 : HO) (trs : List (TE × TE)) : TE := fun σ H Q => ∀ p, H p = none → tPairs trs σ (upd H p o0) fun ps H2 => StAll p (fun H3 => Q (.ref p) H3) ps H2
theorem pe_dispV {o0 : HO} {keys : List (Option Expr)} {values : List Expr} {trs : List (TE × TE)} (n0 : New0 o0) (hu : X.A.units < cLine) (h : PPs X pos keys values trs) (hall : keys.all (·.isSome) = true) (hl : keys.length = values.length) (h0 : keys ≠ []) (h15 : keys.length ≤ 15) :
    PE X (.Dict keys values pos) (tDispV o0 trs) := by
  refine ⟨fun pins s σ H Q I q => ?_⟩
  have fr := I.hok.fresh (Nat.le_refl s.heap.objs.size)
  have I1 := I.laid (a := s.heap.objs.size) (o := o0) (t' := s.toks) (fun _ _ q => Heap.get?_push_of_some _ q) (Nat.le_refl _) (n0.ok s.heap I.big)
  refine wpAny_Dict_any hall hl h0 h15 (thn (h.run pins _ σ _ _ I1 (q _ fr)) fun us s2 ⟨ps, H2, I2, rel, st⟩ => ?_)
  exact thn (stAll_run hu rel I2 st) fun _ s3 ⟨H3, I3, q3⟩ => ⟨.ref s.heap.objs.size, H3, I3, rfl, q3⟩
theorem vf_disp (b : Bool) (hu : X.A.units < cLine) (h : VPs W X E pos ks vs prs) (hall : ks.all (·.isSome) = true) (hl : ks.length = vs.length) (h0 : ks ≠ []) (h15 : ks.length ≤ 15) : VF W X E (.Dict ks vs pos) (fDisp b prs) :=
  PE.imp (pe_dispV (o0_new b) hu h hall hl h0 h15) fun σ H Q ⟨G0, ρ, s0, r0, hq⟩ => fun D hD => by
    have dF : G0.F D = none := r0.toRelW.free hD
    have dA : ∀ i, ¬ G0.ad i D := fun i z => by
      obtain ⟨_, ⟨o, e, _⟩, _⟩ := r0.own i D z
      rw [hD] at e; cases e
    have dP : ¬ G0.fp D := fun z => by
      obtain ⟨_, ⟨o, e⟩, _⟩ := W.own r0.wrl z
      rw [hD] at e; cases e
    have x0 := (Nx.refl G0 H).lay (o := o0 b) hD
    have rr := r0.lay dF dP dA (o0_rep (K := X.K) (F := G0.F) b).nt
    refine disp_run (kf := fun ps s1 => match putAllV b ps [] with | some kvs => R.ok (OT.oD b kvs) s1 | none => .bad) x0 rr hq fun G2 s2 H2 ps m x2 r2 rp h2 => ?_
    -- the stores
    have go : ∀ {ps : List (V × V)} {m acc out : List (Val × Val)} {o : HO} {H3 : Hp}, Rep2 X.K G2.F ps m → putAllV b m acc = some out → RepD X.K G2.F o b acc → H3 D = some o → Nx G0 G2 H H3 → Rel W X.K G2 ρ s2 σ H3 → G2.F D = none → ¬ G2.fp D → 
        Pst W X.K E (pF X.K H) G0 ρ σ H (.ok (.oD b out) s2) Q → StAll D (fun H3 => Q (.ref D) H3) ps H3 := by
      intro ps
      induction ps with
      | nil =>
        intro m acc out o H3 rp e rd eD x3 r3 f1 f2 hq
        cases rp
        cases e
        refine hq G2 H3 (.ref D) x3 r3 ⟨fun a => a = D, rd.own eD, ?_⟩
        rintro a rfl
        exact ⟨hD, f1, ⟨_, eD, rd.nt⟩, f2, fun j => by rw [x3.ad]; exact dA j⟩
      | cons p ps ih =>
        intro m acc out o H3 rp e rd eD x3 r3 f1 f2 hq
        cases rp with
        | cons rk rv rt =>
          unfold putAllV at e
          split at e
          · rename_i d ed
            split at e
            · rename_i hz
              obtain ⟨o', dp, rd'⟩ := rd.put eD r3.sub rk rv ed hz.1 hz.2
              exact ⟨_, dp, ih rt e rd' upd_same (x3.lay hD) (r3.lay f1 f2 (fun j => by rw [x3.ad]; exact dA j) rd'.nt) f1 f2 hq⟩
            · cases e
          · cases e
    have h2 : Pst W X.K E (pF X.K H) G0 ρ σ H (match putAllV b m [] with | some kvs => R.ok (OT.oD b kvs) s2 | none => .bad) Q := h2
    obtain ⟨e2, f1, f2⟩ := x2.bare r2.toRelW (D := D) (o := o0 b) upd_same (o0_rep (K := X.K) (F := G0.F) b).nt dF dP
    cases q : putAllV b m [] with
    | none => rw [q] at h2; exact h2.elim
    | some out =>
      rw [q] at h2
      exact go rp q (o0_rep b) e2 (x0.trans x2) r2 f1 f2 h2

/-! ### 2. new things made of new things -/
theorem vf_e {e : Expr} {f : Ev W} (h : VE W X E e f) : VF W X E e (pE f) := PE.imp h fun σ H Q hq => by
  obtain ⟨G, ρ, s, r, hq⟩ := hq
  refine ⟨G, ρ, s, r, Pst.mono (Pst.bind (P := pV X.K H) hq) ?_⟩
  rintro w H1 ⟨G1, s1, v, x1, r1, rp, h'⟩
  exact h'.done r1 ⟨fun _ => False, .sh rp, fun _ z => z.elim⟩
def pFs (K : PySem.W.Frag) : Hp → RP (List V) (List OT) := fun H0 G H ws ts => ∃ A, RepOs K G.F H A ws ts ∧ ∀ a, A a → H0 a = none ∧ G.F a = none ∧ (∃ o, H a = some o ∧ ∀ ws, o ≠ .tup ws) ∧ ¬ G.fp a ∧ ∀ i, ¬ G.ad i a
def VAF (W : Wo) (X : Cx) (E : WX) (es : List Expr) (f : Sm W (List OT)) : Prop := PA X es (tG W X.K E (pFs X.K) f)
def fNil : Sm W (List OT) := fun _ s => .ok [] s
def fCons (f : Sm W OT) (r : Sm W (List OT)) : Sm W (List OT) := fun ρ s => (f ρ s).bind fun v s1 => (r ρ s1).bind fun vs s2 => .ok (v :: vs) s2
variable {e : Expr} {es : List Expr} {f : Sm W OT} {fs : Sm W (List OT)}
theorem vaf_nil : VAF W X E [] fNil := PA.imp pa_nil fun σ H Q ⟨G, ρ, s, r, h⟩ => Pst.done r h ⟨fun _ => False, .nil, fun _ z => z.elim⟩
theorem vaf_cons (h : VF W X E e f) (hr : VAF W X E es fs) (hs : starEach (e :: es) X.env = (false, eval e X.env) :: starEach es X.env := by rfl) : VAF W X E (e :: es) (fCons f fs) := PA.imp (pa_cons h hr hs) fun σ H Q hq => by
  obtain ⟨G, ρ, s, r, hq⟩ := hq
  refine tG.mk r (Pst.mono (Pst.bind (P := pF X.K H) hq) ?_)
  rintro w H1 ⟨G1, s1, t, x1, r1, p1, h1⟩
  refine tG.mk r1 (Pst.mono (Pst.bind (P := pFs X.K H1) h1) ?_)
  rintro ws H2 ⟨G2, s2, ts, x2, r2, ⟨A2, ro2, hA2⟩, h2⟩
  obtain ⟨A1, ro0, hA0⟩ := p1
  have bare : ∀ a, A1 a → H a = none ∧ G2.F a = none ∧ (∃ o, H2 a = some o ∧ ∀ ws, o ≠ .tup ws) ∧ ¬ G2.fp a ∧ ∀ i, ¬ G2.ad i a := fun a z => by
    obtain ⟨h0, h1, ⟨o, e, nt⟩, n, na⟩ := hA0 a z
    obtain ⟨e', f1, f2⟩ := x2.bare r2.toRelW e nt h1 n
    exact ⟨h0, f1, ⟨o, e', nt⟩, f2, fun i => by rw [x2.ad]; exact na i⟩
  have ro1 := ro0.mono x2.sub (fun _ z => z) fun a z => by
    obtain ⟨h0, h1, ⟨o, e, nt⟩, n, na⟩ := hA0 a z
    rw [e]; exact x2.keep a o e n
  refine h2.done r2 ⟨fun a => A1 a ∨ A2 a, .cons ro1 ro2 (fun a z y => ?_) (fun _ z => .inl z) (fun _ z => .inr z), fun a z => ?_⟩
  · obtain ⟨_, _, ⟨o, e, _⟩, _⟩ := hA0 a z
    have z2 := (hA2 a y).1
    rw [e] at z2; cases z2
  · rcases z with z | z
    · exact bare a z
    · obtain ⟨h1, h2⟩ := hA2 a z
      exact ⟨x1.there a h1, h2⟩
def fTup (fs : Sm W (List OT)) : Sm W OT := fun ρ s => (fs ρ s).bind fun ts s1 => small ts.length (.oT ts) s1
theorem vf_tup {k : Nat} (h : VAF W X E es fs) : VF W X E (.Tuple es k pos) (fTup fs) := PE.imp (pe_tup h) fun σ H Q hq => by
  obtain ⟨G, ρ, s, r, hq⟩ := hq
  refine tG.mk r (Pst.mono (Pst.bind (P := pFs X.K H) hq) ?_)
  rintro ws H1 ⟨G1, s1, ts, x1, r1, ⟨A, ro, hA⟩, h1⟩
  obtain ⟨hz, h1⟩ := Pst.small h1
  refine ⟨by rw [ro.length]; exact hz, fun p hp => ?_⟩
  obtain ⟨x, r2⟩ := pV.new (o := .tup ws) r1 hp (nd_tup ws)
  have ne : ∀ a, A a → a ≠ p := fun a z => by
    obtain ⟨_, _, ⟨o, e, _⟩, _⟩ := hA a z
    exact ne_of_none e hp
  refine h1 _ _ _ x r2 ⟨A, .oT upd_same (ro.mono (Sub.upd (r1.toRelW.free hp)) (fun _ z => z) fun a z => upd_ne (ne a z)), fun a z => ?_⟩
  obtain ⟨h0, h2, h3, h4, h5⟩ := hA a z
  refine ⟨h0, ?_, ?_, h4, h5⟩
  · show upd G1.F p _ a = none
    rw [upd_ne (ne a z)]; exact h2
  · rw [upd_ne (ne a z)]; exact h3

/-! ### 3. repr -/
mutual
def Val.noL : Val → Bool
  | .lst _ => false
  | .wlst _ => false
  | .adr _ => false
  | .tup xs => Val.noLs xs
  | .wtup xs => Val.noLs xs
  | .dic _ kvs => Val.noLp kvs
  | _ => true
def Val.noLs : List Val → Bool
  | [] => true
  | x :: r => x.noL && Val.noLs r
def Val.noLp : List (Val × Val) → Bool
  | [] => true
  | p :: r => Val.noL2 p && Val.noLp r
def Val.noL2 : Val × Val → Bool
  | (_, v) => v.noL
end
section
variable {pins : List (Addr × Obj)} {σ : L2.St} {H B : Hp} {s : Shared}
theorem dt_keys0 (I : Inv X pins σ H s) {l : List (List Key × V)} {xs : List (List Key × Addr × Value)} (kt : KT H l xs) : ∀ {kvs : List (Val × Val)}, RepP X.K B (l.map kT) kvs → ReadsAll s.heap (xs.map fun x => Value.ref x.2.1) ((Val.toDp kvs).map (·.1)) [] := by
  induction kt with
  | nil => intro kvs rp; cases rp; exact .nil
  | @cons a b la lb q t ih =>
    intro kvs rp
    cases rp with
    | cons r rs =>
      obtain ⟨its, rv, ⟨o, g, c, n, d⟩, _⟩ := I.tuple (SqT.of q.2.1)
      have h2 : Reads s.heap (.ref b.2.1) (Val.toD (.tup (a.1.map kVal))) [] := .tuple g c d (by simpa using reads_keys rv)
      exact .cons (as := []) (bs := []) h2 (ih rs)
mutual
theorem Rep.readsN (I : Inv X pins σ H s) (sb : Sub B H) : ∀ {v : Val} {w : V} {u : Value}, Rep X.K B w v → RelV w u → v.noL = true → ∃ as, Reads s.heap u v.toD as ∧ sysModules ∉ as
  | .non, _, _, .non, r, _ => by cases r; exact ⟨[], .none, by simp⟩
  | .bl b, _, _, .bl _, r, _ => by cases r; exact ⟨[], .bool b, by simp⟩
  | .int i, _, _, .int _, r, _ => by obtain ⟨t, rfl⟩ := r; exact ⟨[], .int i t, by simp⟩
  | .str x, _, _, .str _, r, _ => by obtain ⟨t, rfl⟩ := r; exact ⟨[], .str x t, by simp⟩
  | .tup xs, _, _, .tup e rs, r, hp => by
    cases r
    obtain ⟨its, rv, ⟨o, g, c, n, d⟩, _⟩ := I.tuple (SqT.of (sb _ _ e))
    obtain ⟨as, h, hn⟩ := Reps.readsN I sb rs rv hp
    exact ⟨as, .tuple g c d (by simpa using h), hn⟩
  | .wtup xs, _, _, .tupW (a := a) (ws := ws) e rs, r, hp => by
    cases r
    have e' : SqT X.K H a ws := by
      rcases e with (e | ⟨o, e⟩) | e
      · cases e
      · cases e
      · exact .inr e
    obtain ⟨its, rv, ⟨o, g, c, n, d⟩, _⟩ := I.tuple e'
    obtain ⟨as, h, hn⟩ := Reps.readsN I sb rs rv hp
    exact ⟨as, .tuple g c d (by simpa using h), hn⟩
  | .dic false kvs, _, _, .dK (l := l) e rp, r, hp => by
    cases r
    obtain ⟨_, lo, vs, kv, o, es, ep, g, c, d, hk, pr, _⟩ := dk_rd I.hok (sb.rd e)
    obtain ⟨bs, h, hn⟩ := RepP.readsN I sb rp (dk_vals kv) hp
    rw [← pairs_vals pr] at h
    refine ⟨_, .dict g c.1 d (dk_keys kv pr rp) h, ?_⟩
    have := beq_eq_false_iff_ne.mp lo
    simp only [List.cons_append, List.nil_append, List.mem_cons, not_or]
    exact ⟨Ne.symm this, hn⟩
  | .dic true kvs, _, _, .dT (l := l) e rp, r, hp => by
    cases r
    obtain ⟨_, lo, xs, kt, o, es, ep, g, c, d, le, _, _⟩ := dt_rd I.hok (sb.rd e)
    obtain ⟨bs, h, hn⟩ := RepP.readsN I sb rp (dt_vals kt) hp
    have e1 : es.toList.map (·.val) = xs.map (·.2.2) := by rw [le, List.map_map]; rfl
    have e2 : es.toList.map (·.key) = xs.map fun x => Value.ref x.2.1 := by rw [le, List.map_map]; rfl
    rw [← e1] at h
    have h2 := dt_keys0 I kt rp
    rw [← e2] at h2
    refine ⟨_, .dict g c.1 d h2 h, ?_⟩
    have := beq_eq_false_iff_ne.mp lo
    simp only [List.cons_append, List.nil_append, List.mem_cons, not_or]
    exact ⟨Ne.symm this, hn⟩
theorem Reps.readsN (I : Inv X pins σ H s) (sb : Sub B H) : ∀ {vs : List Val} {ws : List V} {us : List Value}, Reps X.K B ws vs → Vals ws us → Val.noLs vs = true → ∃ as, ReadsAll s.heap us (Val.toDs vs) as ∧ sysModules ∉ as
  | [], _, _, .nil, .nil, _ => ⟨[], .nil, by simp⟩
  | v :: vs, _, _, .cons r rs, .cons q qs, hp => by
    have hp : (v.noL && Val.noLs vs) = true := hp
    rw [Bool.and_eq_true] at hp
    obtain ⟨as, h1, n1⟩ := Rep.readsN I sb r q hp.1
    obtain ⟨bs, h2, n2⟩ := Reps.readsN I sb rs qs hp.2
    exact ⟨as ++ bs, .cons h1 h2, by rw [List.mem_append]; exact fun z => z.elim n1 n2⟩
theorem RepP.readsN (I : Inv X pins σ H s) (sb : Sub B H) : ∀ {kvs : List (Val × Val)} {l : List (Val × V)} {us : List Value}, RepP X.K B l kvs → Vals (l.map (·.2)) us → Val.noLp kvs = true → ∃ as, ReadsAll s.heap us ((Val.toDp kvs).map (·.2)) as ∧ sysModules ∉ as
  | [], _, _, .nil, .nil, _ => ⟨[], .nil, by simp⟩
  | (k, v) :: kvs, _, _, .cons r rs, .cons q qs, hp => by
    have hp : (v.noL && Val.noLp kvs) = true := hp
    rw [Bool.and_eq_true] at hp
    obtain ⟨as, h1, n1⟩ := Rep.readsN I sb r q hp.1
    obtain ⟨bs, h2, n2⟩ := RepP.readsN I sb rs qs hp.2
    exact ⟨as ++ bs, .cons h1 h2, by rw [List.mem_append]; exact fun z => z.elim n1 n2⟩
end
end
def reprOk (v : Val) : Bool := v.noL && v.toD.showable && v.toD.leavesShort 13 && decide (v.toD.weight ≤ 2 ^ 20) && decide (v.toD.depth ≤ 50)
def Val.isRef : Val → Bool
  | .tup _ => true
  | .wtup _ => true
  | .dic _ _ => true
  | _ => false
def gRepr : List Val → Option Val
  | [v] => if (v.isRef && reprOk v) = true then some (.str v.toD.shown) else none
  | _ => none
def rRepr (K : PySem.W.Frag) : List V → Hp → VK → Prop := fun xs H Q => ∃ w v, xs = [w] ∧ Rep K H w v ∧ v.isRef = true ∧ reprOk v = true ∧ Q (.str v.toD.shown) H
theorem call_reprV (hg : X.A.guards = some []) (hu : X.A.units + 64 < cLine) : CallR X (.builtin "repr") (rRepr X.K) := by
  intro pins s σ H xs us Q I r h
  obtain ⟨w, v, rfl, rp, hr, ok, q⟩ := h
  obtain ⟨u, rfl, rx⟩ := vals1 r
  unfold reprOk at ok
  simp only [Bool.and_eq_true] at ok
  obtain ⟨⟨⟨⟨h1, h2⟩, h3⟩, h4⟩, h5⟩ := ok
  have h5 := of_decide_eq_true h5
  obtain ⟨as, rd, hn⟩ := Rep.readsN I (Sub.refl _) rp rx h1
  obtain ⟨a, rfl⟩ : ∃ a, u = .ref a := by
    cases rp <;> first | (cases hr; done) | exact ⟨_, rx⟩
  exact repr_of_reads' (hsz := PyData.shown_fits (B := 13) (by omega) (Nat.le_refl _) h3 (of_decide_eq_true h4)) rd h2 (fun _ => hn) hg (by omega) (fun _ _ e => e) fun h' u tk hk => ⟨.str v.toD.shown, H, I.kept hk, ⟨u, rfl⟩, q⟩
theorem ve_repr {a : Expr} {fa : Ev W} {p1 : Pos} (hgd : X.A.guards = some []) (hu : X.A.units + 64 < cLine) (hg : Gl X "repr") (hm : X.mg "repr" = none) (ha : VB W X E a fa) (h1 : starEach [a] X.env = (false, eval a X.env) :: starEach [] X.env := by rfl) :
    VE W X E (.Call (.Name "repr" p1) [a] [] pos) (eCl gRepr (eCons fa eNil)) :=
  ve_callB (call_reprV hgd hu) (fun H ws vs v Q rs e q => by
    unfold gRepr at e
    split at e
    · split at e
      · rename_i hk
        cases e
        rw [Bool.and_eq_true] at hk
        obtain ⟨w, rfl, r1⟩ := rs.one
        exact ⟨w, _, rfl, r1, hk.1, hk.2, q _ fun F => .str _⟩
      · cases e
    · cases e) hg hm (by rfl) (vab_cons ha vab_nil h1) (he := h1)
end
end VL

/-! VL18: list of a dict's items. -/
namespace VL
open PySem PySem.Spec PyProof.Rows L2
/-- tuples of two at the addresses -/
def putTs : Hp → List Addr → List (V × V) → Hp
  | H, a :: as, r :: rows => putTs (upd H a (.tup [r.1, r.2])) as rows
  | H, _, _ => H
theorem putTs_off {b : Addr} : ∀ (as : List Addr) (rows : List (V × V)) (H : Hp), b ∉ as → putTs H as rows b = H b
  | [], _, _, _ => rfl
  | _ :: _, [], _, _ => rfl
  | a :: as, r :: rows, H, h => by
    show putTs (upd H a _) as rows b = H b
    have h1 : b ≠ a := fun z => h (by rw [z]; exact List.mem_cons_self)
    rw [putTs_off as rows _ (fun z => h (List.mem_cons_of_mem _ z)), upd_ne h1]
theorem putTs_at {t : Addr} {r : V × V} : ∀ (as : List Addr) (rows : List (V × V)) (H : Hp) (j : Nat), as.Nodup → as[j]? = some t → rows[j]? = some r → putTs H as rows t = some (.tup [r.1, r.2])
  | [], _, _, j, _, h, _ => by simp at h
  | _ :: _, [], _, j, _, _, h => by simp at h
  | a :: as, r0 :: rows, H, 0, hn, h1, h2 => by
    have h1 : a = t := by simpa using h1
    have h2 : r0 = r := by simpa using h2
    subst h1 h2
    show putTs (upd H a _) as rows a = _
    rw [putTs_off as rows _ (List.nodup_cons.mp hn).1, upd_same]
  | a :: as, r0 :: rows, H, j + 1, hn, h1, h2 => putTs_at as rows (upd H a _) j (List.nodup_cons.mp hn).2 (by simpa using h1) (by simpa using h2)
theorem putTs_new {W : Wo} {K : PySem.W.Frag} {ρ : En} {σ : L2.St} {s : W.S} : ∀ {as : List Addr} {rows : List (V × V)} {m : List (Val × Val)} {G : Gh} {H : Hp}, Rel W K G ρ s σ H → as.Nodup → (∀ t ∈ as, H t = none) → as.length = rows.length → Rep2 K G.F rows m →
    ∃ G', Nx G G' H (putTs H as rows) ∧ Rel W K G' ρ s σ (putTs H as rows) ∧ Reps K G'.F (as.map V.ref) (m.map fun p => .tup [p.1, p.2])
  | [], [], _, G, H, r, _, _, _, .nil => ⟨G, Nx.refl _ _, r, .nil⟩
  | [], _ :: _, _, G, H, r, _, _, h, _ => by cases h
  | _ :: _, [], _, G, H, r, _, _, h, _ => by cases h
  | a :: as, (k, v) :: rows, _, G, H, r, hn, hf, hl, .cons (k := x) (v := y) rk rv rp => by
    have hn' := List.nodup_cons.mp hn
    have fa := hf a List.mem_cons_self
    obtain ⟨hF, hH⟩ := r.toRelW.fresh (o := .tup [k, v]) fa (nd_tup _)
    have r1 := r.next hF hH
    obtain ⟨G', x2, r2, rs⟩ := putTs_new r1 hn'.2 (fun t ht => by rw [upd_ne (fun z => hn'.1 (by rw [← z]; exact ht))]; exact hf t (List.mem_cons_of_mem _ ht)) (Nat.succ.inj hl) (rp.mono hF.sub)
    refine ⟨G', hF.trans x2, r2, .cons (.tup (x2.sub _ _ (show upd G.F a _ a = _ from upd_same)) ?_) rs⟩
    exact .cons (rk.mono (hF.sub.trans x2.sub)) (.cons (rv.mono (hF.sub.trans x2.sub)) .nil)
section
variable {X : Cx} {pins : List (Addr × Obj)} {σ : L2.St} {H : Hp} {s : Shared}
theorem rowsV_laid {h' : Heap} {tk : Nat} {rows : List (V × V)} {es : Array DictEntry} {acc : Array Value} {c : Nat} {as : List Addr} (I : Inv X pins σ H s) (hz : rows.length ≤ sizeLine) (hk : ∀ b o, s.heap.get? b = some o → h'.get? b = some o)
    (hS : h'.get? s.heap.objs.size = some { cls := .type "list", dict := none, data := .seq acc c, slots := #[] }) (hl : as.length = es.size) (hG : PySem.W.DilG es s.heap.objs.size h' as) (hacc : acc.toList = as.map Value.ref) (hr : rows.length = es.size)
    (hv : ∀ (j : Nat) (hj : j < es.size), ∃ p, rows[j]? = some p ∧ RelV p.1 es[j].key ∧ RelV p.2 es[j].val) :
    as.Nodup ∧ (∀ t ∈ as, H t = none) ∧ s.heap.objs.size ∉ as ∧ Inv X pins σ (upd (putTs H as rows) s.heap.objs.size (.lst (as.map V.ref))) { s with heap := h', toks := tk } := by
  have nS : s.heap.objs.size ∉ as := fun z => Nat.lt_irrefl _ (hG.above _ z)
  have nd : as.Nodup := List.Pairwise.imp (fun {a b} (h : a < b) => Nat.ne_of_lt h) hG.rise
  have new : ∀ t ∈ as, H t = none := fun t ht => I.hok.fresh (Nat.le_of_lt (hG.above t ht))
  have newS : H s.heap.objs.size = none := I.hok.fresh (Nat.le_refl _)
  have off : ∀ b, b ∉ as → b ≠ s.heap.objs.size → (upd (putTs H as rows) s.heap.objs.size (.lst (as.map V.ref))) b = H b := fun b h1 h2 => by rw [upd_ne h2, putTs_off as rows _ h1]
  have low : ∀ b o, s.heap.get? b = some o → b ∉ as ∧ b ≠ s.heap.objs.size := fun b o e => ⟨fun z => absurd (Heap.lt_size e) (Nat.not_lt.mpr (Nat.le_of_lt (hG.above b z))), Nat.ne_of_lt (Heap.lt_size e)⟩
  have kp : ∀ b u, H b = some u → (upd (putTs H as rows) s.heap.objs.size (.lst (as.map V.ref))) b = some u := fun b u e => by
    rw [off b (fun z => by rw [new b z] at e; cases e) (fun z => by rw [z, newS] at e; cases e)]
    exact e
  refine ⟨nd, new, nS, ?_⟩
  refine I.call' (ch := []) rfl ⟨fun b o q _ _ _ => hk b o q, fun b o q _ _ _ => ⟨o.slots, hk b o q⟩, fun b o q n _ => ?_, fun b o q _ => ⟨o, hk b o q⟩, fun b xs q => kp b _ q, fun b o u q => kp b _ q, fun b ps q => ⟨#[], by rw [kp b _ q]; simp⟩⟩ (fun b u q => ?_) I.bare fun b z => by simp at z
  · obtain ⟨z1, z2⟩ := low b o q
    rw [off b z1 z2]
    exact n
  · by_cases hb2 : b = s.heap.objs.size
    · subst hb2
      rw [upd_same] at q
      cases q
      have e1 : (as.map V.ref).length = rows.length := by rw [List.length_map]; omega
      refine ⟨by rw [e1]; exact hz, acc.toList, c, by rw [hacc]; exact vals_refs as, ?_⟩
      rw [Array.toArray_toList]
      exact hS
    · by_cases hb : b ∈ as
      · rw [upd_ne hb2] at q
        obtain ⟨j, e1⟩ := List.mem_iff_getElem?.mp hb
        obtain ⟨hj, f3⟩ := hG.pairs j b e1
        obtain ⟨p, e2, g1, g2⟩ := hv j hj
        rw [putTs_at as rows H j nd e1 e2] at q
        cases q
        exact ⟨by show 2 ≤ sizeLine; decide, [es[j].key, es[j].val], .cons g1 (.cons g2 .nil), ⟨_, f3, rfl, _, rfl⟩⟩
      · rw [off b hb hb2] at q
        exact (I.hok b u q).stay (fun d v _ y => hk d v y) (fun d y => kp d _ y) fun d xs y => kp d _ y
/-- the rows of a dict's items -/
def RowsOf (H : Hp) (d : Addr) (rows : List (V × V)) : Prop := (∃ l, Rd H d (.dK l) ∧ rows = l.map fun p => (kV p.1, p.2)) ∨ ∃ (l : List (List Key × V)) (bs : List Addr), Rd H d (.dT l) ∧ IsKeys H l bs ∧ rows = (bs.zip l).map fun p => (V.ref p.1, p.2.2)
def tItemsL (te : TE) : TE := fun σ H Q => te σ H fun x H1 => ∃ d, x = .ref d ∧ ((∃ l, Rd H1 d (.dK l)) ∨ ∃ l, Rd H1 d (.dT l)) ∧ ∀ rows p as, RowsOf H1 d rows → H1 p = none → as.Nodup → (∀ t ∈ as, H1 t = none) → p ∉ as → as.length = rows.length → Q (.ref p) (upd (putTs H1 as rows) p (.lst (as.map V.ref)))
theorem rowsT_at {l : List (List Key × V)} {xs : List (List Key × Addr × Value)} {H : Hp} (kt : KT H l xs) : ∀ {j : Nat} {b : List Key × Addr × Value}, xs[j]? = some b → ∃ p, (((xs.map fun x => x.2.1).zip l).map fun p => (V.ref p.1, p.2.2))[j]? = some p ∧ RelV p.1 (.ref b.2.1) ∧ RelV p.2 b.2.2 := by
  induction kt with
  | nil => intro j b e; simp at e
  | @cons a b0 la lb h t ih =>
    intro j b e
    cases j with
    | zero => cases e; exact ⟨_, rfl, rfl, h.2.2⟩
    | succ j => simpa using ih (by simpa using e)
theorem rowsK_at {l : List (Key × V)} {vs : List (Key × Value)} (kv : KV l vs) : ∀ {P : Program} {w : World} {es : List DictEntry}, Pairs (mixKind P w) es vs → ∀ {j : Nat} {e : DictEntry}, es[j]? = some e → ∃ p, (l.map fun p => (kV p.1, p.2))[j]? = some p ∧ RelV p.1 e.key ∧ RelV p.2 e.val := by
  unfold KV at kv
  induction kv with
  | nil => intro P w es p j e h; cases p; simp at h
  | @cons a b la lb q t ih =>
    intro P w es p j e h
    cases p with
    | cons h1 h2 h3 =>
      cases j with
      | zero =>
        cases h
        refine ⟨_, rfl, ?_, ?_⟩
        · show RelV (kV a.1) _
          rw [q.1]; exact relV_key h1
        · rw [h2]; exact q.2
      | succ j => exact ih h3 (by simpa using h)
theorem pe_itemsV {e : Expr} {te : TE} {p apos cpos pos : Pos} (hc : X.calm = true) (he : PE X e te) (hg : Gl X "list") (hm : X.mg "list" = none) (hv : bootBuiltins "list" = some (.type "list")) (hbase : attributeBase e "items" X.env (eval e X.env) = eval e X.env) (hline : (apos.endLine == cpos.line) = true)
    (hs : starEach [.Call (.Attribute e "items" apos) [] [] cpos] X.env = (false, eval (.Call (.Attribute e "items" apos) [] [] cpos) X.env) :: starEach [] X.env) :
    PE X (.Call (.Name "list" p) [.Call (.Attribute e "items" apos) [] [] cpos] [] pos) (tItemsL te) := by
  refine ⟨fun pins s σ H Q I hq => ?_⟩
  refine wpAny_Call_Name_kw (ld_blt I hg hm hv ?_)
  refine PyProof.Rows.callWith_type1 ?_ hs rfl
  rw [hs]
  show wpAny _ _ (spliced ((false, eval (.Call (.Attribute e "items" apos) [] [] cpos) X.env) :: backTo pos (starEach [] X.env))) _ _ s
  refine Calls.spliced_cons ?_
  refine wpAny_Call_method (T := "dict") (id := "dict.items") hbase rfl hline F.plainAttrs_dict F.slot_dict_items F.type_dict_items (thn (he.run pins s σ H _ I hq) fun u s1 ⟨x, H1, I1, rx, d, ex, hd, q⟩ => ?_)
  subst ex
  obtain rfl : u = Value.ref d := rx
  -- the entries
  obtain ⟨hs0, es, ep, hraw, rows, hz, hro, hlen, hval⟩ : (d == sysModules) = false ∧ ∃ (es : Array DictEntry) (ep : Nat), s1.heap.DictRaw d es ep ∧ ∃ rows, rows.length ≤ sizeLine ∧ RowsOf H1 d rows ∧ rows.length = es.size ∧
      ∀ (j : Nat) (hj : j < es.size), ∃ p, rows[j]? = some p ∧ RelV p.1 es[j].key ∧ RelV p.2 es[j].val := by
    rcases hd with ⟨l, hd⟩ | ⟨l, hd⟩
    · obtain ⟨z, lo, vs, kv, o, es, ep, g, c, hdt, hk, pr, _⟩ := dk_rd I1.hok hd
      have l1 : es.size = vs.length := by rw [← pr.length]; simp
      have l2 := kv.length
      refine ⟨lo, es, ep, ⟨o, g, c, hdt⟩, _, by rw [List.length_map]; exact z, .inl ⟨l, hd, rfl⟩, by rw [List.length_map]; omega, fun j hj => ?_⟩
      exact rowsK_at kv pr (j := j) (e := es[j]) (by simp [hj])
    · obtain ⟨z, lo, xs, kt, o, es, ep, g, c, hdt, he, _, _⟩ := dt_rd I1.hok hd
      have l1 : es.size = xs.length := size_of_entries he
      have l2 : l.length = xs.length := Paired.length kt
      refine ⟨lo, es, ep, ⟨o, g, c, hdt⟩, ((xs.map fun x => x.2.1).zip l).map fun p => (V.ref p.1, p.2.2), ?_, .inr ⟨l, _, hd, isKeys_of kt, rfl⟩, ?_, fun j hj => ?_⟩
      · rw [List.length_map, List.length_zip, List.length_map]; omega
      · rw [List.length_map, List.length_zip, List.length_map]; omega
      · have hx : xs[j]? = some xs[j] := List.getElem?_eq_getElem (by omega)
        obtain ⟨p, e1, g1, g2⟩ := rowsT_at kt hx
        have qe := entry_at he j
        rw [hx] at qe
        have e3 : es[j]? = some es[j] := Array.getElem?_eq_getElem hj
        rw [e3] at qe
        have qe := Option.some.inj qe
        refine ⟨p, e1, ?_, ?_⟩
        · rw [qe]; exact g1
        · rw [qe]; exact g2
  have I2 : Inv X pins σ H1 { s1 with heap := s1.heap.push { cls := .type "dict_items", data := .fields #[.ref d] } } := I1.kept (t' := s1.toks) fun b ob q => Heap.get?_push_of_some _ q
  refine ⟨hraw.typeIs, ?_, ?_⟩
  · obtain ⟨o, g, c, _⟩ := hraw
    exact fun a e => by cases e; exact ⟨o, g, c.2.1⟩
  show wpAny _ _ (callWith cpos (.builtin "dict.items") [.ref d] [] []) _ X.xe s1
  refine method_meetsIn F.slot_dict_items F.entry_dict_items rfl (PySem.evalArgs_none ⟨rfl, hraw.typeIs, F.args_dict_items_1 _, _, meets_dict_items_raw d hs0, ⟨es, ep, hraw⟩, ?_⟩)
  refine Calls.spliced_nil ?_
  refine PySem.W.dil_call (es := es) (ep := ep) (I1.ok.hd hc) ⟨_, Heap.get?_push_size _ rfl, rfl, rfl⟩ (hraw.at fun o e => Heap.get?_push_of_some _ e) (by omega) fun h' tk acc c as hk hS hl hG hacc => ?_
  obtain ⟨k1, k2, k3, J⟩ := rowsV_laid (tk := tk) I2 hz hk hS hl hG hacc hlen hval
  exact ⟨.ref _, _, J, rfl, q rows _ as hro (I2.hok.fresh (Nat.le_refl _)) k1 k2 k3 (by omega)⟩
end
section
variable {W : Wo} {X : Cx} {E : WX}
def fItems (p : Sm W OT) : Sm W OT := fun ρ s => (p ρ s).bind fun t s1 => match t.dict with
  | some d => .ok (.oL (d.2.map fun p => .tup [p.1, p.2])) s1
  | none => .bad
theorem rep2_K {K : PySem.W.Frag} {F : Hp} : ∀ {l : List (Key × V)} {kvs : List (Val × Val)}, RepP K F (l.map kK) kvs → Rep2 K F (l.map fun p => (kV p.1, p.2)) kvs
  | [], _, h => by cases h; exact .nil
  | (.inl i, w) :: l, _, h => by
    cases h with
    | cons r t => exact .cons (.int i) r (rep2_K t)
  | (.inr x, w) :: l, _, h => by
    cases h with
    | cons r t => exact .cons (.str x) r (rep2_K t)
theorem rep2_T {K : PySem.W.Frag} {F H : Hp} (st : Sub (TupOf H) F) : ∀ {l : List (List Key × V)} {bs : List Addr} {kvs : List (Val × Val)}, RepP K F (l.map kT) kvs → IsKeys H l bs → Rep2 K F ((bs.zip l).map fun p => (V.ref p.1, p.2.2)) kvs
  | [], [], _, h, _ => by cases h; exact .nil
  | [], _ :: _, _, h, k => by cases k
  | _ :: _, [], _, h, k => by cases k
  | (ks, w) :: l, b :: bs, _, h, k => by
    cases h with
    | cons r t =>
      cases k with
      | cons hb kt => exact .cons (.tup (st _ _ (TupOf.at hb)) (Reps.keys ks)) r (rep2_T st t kt)
theorem vf_items {e : Expr} {p : Sm W OT} {p1 apos cpos pos : Pos} (hc : X.calm = true) (he : VP W X E e p) (hg : Gl X "list") (hm : X.mg "list" = none) (hbase : attributeBase e "items" X.env (eval e X.env) = eval e X.env := by rfl) (hline : (apos.endLine == cpos.line) = true := by rfl)
    (hs : starEach [.Call (.Attribute e "items" apos) [] [] cpos] X.env = (false, eval (.Call (.Attribute e "items" apos) [] [] cpos) X.env) :: starEach [] X.env := by rfl) :
    VF W X E (.Call (.Name "list" p1) [.Call (.Attribute e "items" apos) [] [] cpos] [] pos) (fItems p) := PE.imp (pe_itemsV hc he hg hm (by rfl) hbase hline hs) fun σ H Q hq => by
  obtain ⟨G, ρ, s, r, hq⟩ := hq
  refine tG.mk r (Pst.mono (Pst.bind (P := pP X.K H) hq) ?_)
  rintro w H1 ⟨G1, s1, t, x1, r1, ⟨A, ro, hA⟩, h1⟩
  cases ed : t.dict with
  | none => rw [ed] at h1; exact h1.elim
  | some d =>
    obtain ⟨b, kvs⟩ := d
    rw [ed] at h1
    obtain ⟨a, rfl, hd⟩ := dict_rep r1.sub ro ed
    refine ⟨a, rfl, ?_, fun rows q as hro hq nd new nq hl => ?_⟩
    · rcases hd with ⟨_, l, h, _⟩ | ⟨_, l, h, _⟩
      · exact .inl ⟨l, h⟩
      · exact .inr ⟨l, h⟩
    have rr : Rep2 X.K G1.F rows kvs := by
      rcases hd with ⟨rfl, l, h, rp⟩ | ⟨rfl, l, h, rp⟩
      · rcases hro with ⟨l', h', rfl⟩ | ⟨l', bs, h', _, _⟩
        · have : l' = l := by
            rcases h with h | ⟨o, h⟩ <;> rcases h' with h' | ⟨o', h'⟩ <;> rw [h] at h' <;> cases h' <;> rfl
          subst this
          exact rep2_K rp
        · exfalso
          rcases h with h | ⟨o, h⟩ <;> rcases h' with h' | ⟨o', h'⟩ <;> rw [h] at h' <;> cases h'
      · rcases hro with ⟨l', h', rfl⟩ | ⟨l', bs, h', hk, rfl⟩
        · exfalso
          rcases h with h | ⟨o, h⟩ <;> rcases h' with h' | ⟨o', h'⟩ <;> rw [h] at h' <;> cases h'
        · have : l' = l := by
            rcases h with h | ⟨o, h⟩ <;> rcases h' with h' | ⟨o', h'⟩ <;> rw [h] at h' <;> cases h' <;> rfl
          subst this
          exact rep2_T (TupOf.le r1.toRelW) rp hk
    obtain ⟨G2, x2, r2, rs⟩ := putTs_new r1 nd new hl rr
    have hq2 : putTs H1 as rows q = none := by rw [putTs_off as rows _ nq]; exact hq
    obtain ⟨x3, r3, ⟨A3, ro3, hA3⟩⟩ := pF.new (o := .lst (as.map V.ref)) (t := .oL (kvs.map fun p => .tup [p.1, p.2])) r2 hq2 (nd_lst _).2 (.oL upd_same rfl rs)
    exact h1 _ _ _ (x2.trans x3) r3 ⟨A3, ro3, fun a z => ⟨x1.there a (x2.there a (hA3 a z).1), (hA3 a z).2⟩⟩
end
end VL

/-! VL19: the law's def, called by the claim's own caller (whose guards are known: repr). -/
namespace VL
open PySem PySem.Spec PyProof.Rows L2
/-- what the law's def promises to the claim's caller -/
def TopRun (P : Program) (w : World) (K : PySem.W.Frag) (mg : Str → Option Value) (base : Heap) (fa : Addr) (fd : FuncData) (x : Str) (sp : Sp) : Prop :=
  ∀ (s : Shared) (H : Hp) (v : V) (u : Value) (Q : VK) (E : XK), Env0 P w K mg base callerA [] s H → BindsTo s fd ⟨[u], []⟩ [(x, u)] → RelV v u → sp [v] H Q E → codeAny (model P w) callerA (.call (.ref fa) ⟨[u], []⟩) (CR CX0 [] P w H s Q E) s
section
variable {P : Program} {w : World} {K : PySem.W.Frag} {mg : Str → Option Value} {base : Heap}
/-- a def's body from one caller -/
theorem Fun.top {x qual p : Str} {st : Stmt} {f : Addr} {fd : FuncData} {N : List Str} {k : Nat} {sp : Sp} (F : Fun K x qual st f fd) (S : FnScope N [p] (defScope st)) (hr : Room (k + 1) callerA)
    (body : ∀ (cdv : Value) (s : Shared) (H : Hp) (v : V) (Q : VK) (E : XK), Room k (callerA.deeper (envOfC qual (defScope st) s.heap.objs.size f cdv)) → sp [v] H Q E →
      ∃ t, PSs (cxV P w K mg base N qual (defScope st) f cdv callerA [] s H E) (defBody st) t ∧ t { nx := fun _ H' => Q .non H', rt := Q } (L2.start N [v]) H) : TopRun P w K mg base f fd p sp := by
  intro s H v u Q E e0 hb rv hsp
  obtain ⟨oc, od, kV, doc, pm, an, cdv, ct, osl, rfl, lk, hcd⟩ := F.ex
  have inK : K.In s.heap := e0.mod.kin.keeps fun b o e => (e0.bs b o e).1
  have free : s.heap.NoLimit := e0.mod.nolimit.keeps fun b o e => (e0.bs b o e).1
  have kinds : ∀ y ∈ [p].zip [u], (defScope st).names.lookup y.1 = some .local ∨ ((defScope st).names.lookup y.1 = some .cell ∧ ((cellsFrom (s.heap.objs.size + 1) (defScope st).names []).lookup y.1).isSome = true) := fun ⟨n, z⟩ hy =>
    (S.par n (List.of_mem_zip hy).1).imp id fun q => ⟨q, PySem.W.cellsFrom_some _ _ _ (.inl q)⟩
  refine codeAny_call_function hr.depth (inK _ _ lk) rfl S.co S.gen rfl (PySem.W.codeRec_of inK hcd) (hb _ _ _ _ ?_)
  refine wpAny_newFunctionEnv_cells S.kind kinds fun env he s1 call => ?_
  subst he
  refine ⟨free.keeps call.toInCall.keep, codeAny_func ?_⟩
  obtain ⟨t, ht, hq⟩ := body cdv s H v Q E (hr.deeper _) hsp
  have I0 := inv_start (CX := CX0) (P := P) (w := w) (mg := mg) (base := base) (E := E) S hr.hd e0 (vs := [v]) (us := [u]) rfl (.cons rv .nil) call
  refine wpAny_mono (ht.nox.run [] s1 _ H _ I0 hq) (fun fl s' hs => ?_) fun e s' hs => hs
  cases fl with
  | ret z =>
    obtain ⟨y, σ', H', J, ry, q⟩ := hs
    exact ⟨y, H', J.os, J.bare, J.base, J.hok, ry, q⟩
  | next =>
    obtain ⟨σ', H', J, q⟩ := hs
    exact ⟨V.non, H', J.os, J.bare, J.base, J.hok, rfl, q⟩
  | brk => exact hs.elim fun _ z => z.elim fun _ z => z.2.elim
  | cont => exact hs.elim fun _ z => z.elim fun _ z => z.2.elim
/-- the heap behind the top, the script known -/
theorem top_call {mb : Str → Option Value} {fa a : Addr} {fd : FuncData} {x : Str} {sp : Sp} {s₁ : Shared} {vs : List Value} {ns : List Int}
    (inK : K.In s₁.heap) (gl : s₁.heap.Ns mainGlobals mg) (bl : s₁.heap.Ns builtinsNs mb) (boot : ∀ x : Str, x ≠ "__name__" → mb x = bootBuiltins x) (free : s₁.heap.NoLimit) (g0 : s₁.gens = #[])
    (ha : s₁.heap.get? a = some { cls := .type "list", data := .seq vs.toArray }) (hi : IntsAre vs ns) (hl : ns.length ≤ sizeLine)
    (T : ∀ base : Heap, K.In base → base.Ns mainGlobals mg → TopRun P w K mg base fa fd x sp) (hbind : ∀ (s : Shared) (u : Value), BindsTo s fd ⟨[u], []⟩ [(x, u)])
    (hsp : ∀ H : Hp, Only H → SqL K H a (ns.map V.int) → sp [.ref a] H (fun v _ => v = .bl true) fun _ _ _ => False) :
    codeAny (model P w) callerA (.call (.ref fa) ⟨[.ref a], []⟩) (fun r s' => r = .ok (.ret (.bool true)) ∧ OldK s₁.heap s'.heap ∧ s'.os = s₁.os ∧ AllBare s'.gens) s₁ := by
  have rv := vals_ints hi
  have lv := hi.length
  -- whatever of the script is tracked
  have main : ∀ H : Hp, Only H → SqL K H a (ns.map V.int) → HOk P w H s₁.heap → (∀ b, H b ≠ none → b = a) → (H a ≠ none → K.lookup a = none) →
      codeAny (model P w) callerA (.call (.ref fa) ⟨[.ref a], []⟩) (fun r s' => r = .ok (.ret (.bool true)) ∧ OldK s₁.heap s'.heap ∧ s'.os = s₁.os ∧ AllBare s'.gens) s₁ := by
    intro H only sq ok at_a off_a
    have only_a : ∀ {b : Addr} {u : HO}, H b = some u → b = a := fun {b u} q => at_a b (by rw [q]; simp)
    have notDict : ∀ {b : Addr} {o : Obj} {es : Array DictEntry} {ep : Nat}, s₁.heap.get? b = some o → o.data = .dict es ep → H b = none := fun {b o es ep} e d => by
      cases q : H b with
      | none => rfl
      | some u =>
        have := only_a q
        subst this
        rw [ha] at e; cases e
        have d2 : Data.seq vs.toArray _ = Data.dict es ep := d
        cases d2
    have ns2 : ∀ {b : Addr} {m : Str → Option Value}, s₁.heap.Ns b m → (hidT s₁.heap H).Ns b m := fun {b m} ⟨o, es, ep, e, d, r⟩ => ⟨o, es, ep, hidT_get e (notDict e d), d, r⟩
    have inB : K.In (hidT s₁.heap H) := fun b o e => hidT_get (inK b o e) (by
      cases q : H b with
      | none => rfl
      | some u =>
        have := only_a q
        subst this
        rw [off_a (by rw [q]; simp)] at e; cases e)
    have md : Mod K mg (hidT s₁.heap H) := ⟨inB, ns2 gl, ⟨mb, ns2 bl, boot⟩, let ⟨mc, h1, h2⟩ := free; ⟨mc, ns2 h1, h2⟩⟩
    have e0 : Env0 P w K mg (hidT s₁.heap H) callerA [] s₁ H := ⟨rfl, md, fun b o e => of_hidT e, Nat.le_of_eq (hidT_size _ _), trivial, fun b hb => absurd (show b ∈ ([] : List Addr) from hb) (by simp), ok, .of_eq g0⟩
    refine codeAny_mono (T _ inB (ns2 gl) s₁ H (.ref a) (.ref a) _ _ e0 (hbind s₁ (.ref a)) rfl (hsp H only sq)) fun r s' h => ?_
    cases r with
    | error e => exact h.elim
    | ok fl =>
      cases fl with
      | ret u =>
        obtain ⟨v, H', os, bare, un, ok2, ru, q⟩ := h
        obtain rfl : v = .bl true := q
        obtain rfl : u = Value.bool true := ru
        refine ⟨rfl, OldK.of_keep fun b o e => ?_, os, bare⟩
        cases q : H b with
        | none => exact un.keep b o e q (fun z => absurd (show b ∈ ([] : List Addr) from z) (by simp)) (by simp)
        | some u =>
          rcases only b with z | ⟨ob, xs, z⟩
          · rw [q] at z; cases z
          · obtain ⟨e1, _⟩ := ok b _ z
            obtain ⟨e2, _⟩ := ok2 b _ (un.frzs b ob _ z)
            rw [e] at e1; cases e1
            exact e2
      | next => exact h.elim
      | brk => exact h.elim
      | cont => exact h.elim
  cases q : K.lookup a with
  | some o =>
    have e := inK a o q
    rw [ha] at e
    cases e
    refine main (fun _ => none) (fun _ => .inl rfl) (.inr ⟨_, vs.toArray, _, q, rfl, rfl, rfl, by rw [List.size_toArray, lv]; exact hl, by simpa using rv⟩) (fun b u z => by have z : (none : Option HO) = some u := z; cases z) (fun b z => absurd rfl z) fun z => absurd rfl z
  | none =>
    have hit : ∀ {b : Addr} {u : HO}, (if b = a then some (HO.frz { cls := .type "list", data := .seq vs.toArray } (.lst (ns.map V.int))) else none) = some u → b = a ∧ u = .frz { cls := .type "list", data := .seq vs.toArray } (.lst (ns.map V.int)) := fun {b u} z => by
      split at z
      · cases z; exact ⟨by assumption, rfl⟩
      · cases z
    refine main (fun b => if b = a then some (.frz { cls := .type "list", data := .seq vs.toArray } (.lst (ns.map V.int))) else none) (fun b => ?_) (.inl (.inr ⟨{ cls := .type "list", data := .seq vs.toArray }, if_pos rfl⟩)) (fun b u z => ?_) (fun b z => ?_) fun _ => q
    · by_cases hb : b = a
      · exact .inr ⟨_, _, if_pos hb⟩
      · exact .inl (if_neg hb)
    · obtain ⟨rfl, rfl⟩ := hit z
      exact ⟨ha, by rw [List.length_map]; exact hl, vs, _, rv, ha⟩
    · by_cases hb : b = a
      · exact hb
      · exact absurd (if_neg hb) z
end
/-- the goal that k_head leaves -/
theorem top_walk {l : PySem.W.OpenLaw} {n : Nat} {q : Program} {loose : List Str} {XP : (Str → Option Value) → Heap → Prop} {YP : World → Heap → Prop} {d : DefRec} {K : Params → PySem.W.Frag} {sp : World → Sp} {x : Str}
    (hn : l.most = some n) (hn2 : n ≤ sizeLine) (hdf : d.params.defaults = []) (hY : ∀ (w : World) (h : Heap), YP w h → (K w.params).In h)
    (T : ∀ (w : World) (mg : Str → Option Value) (fa : Addr) (h : Heap), (K w.params).In h → h.Ns mainGlobals mg → mg d.name = some (.ref fa) →
      ∃ fd : FuncData, (∀ (s : Shared) (u : Value), BindsTo s fd ⟨[u], []⟩ [(x, u)]) ∧ ∀ base : Heap, (K w.params).In base → base.Ns mainGlobals mg → TopRun l.prog w (K w.params) mg base fa fd x (sp w))
    (hsp : ∀ (w : World) (H : Hp) (a : Addr) (ns : List Int), ns.length ≤ n → (∀ z ∈ ns, Builtin.Int.intBits z ≤ 1048576) → Only H → SqL (K w.params) H a (ns.map V.int) → sp w [.ref a] H (fun v _ => v = .bl true) fun _ _ _ => False) :
    PySem.W.WalkO q loose XP YP l.row.toRowW d [] (fun f vs => PySem.call f vs) := by
  refine Att.attach_callB hn hdf fun w s₀ s₁ mg mb fa o pm cd doc a vs ns G Y ho hd hcd hmg hobj hints hlen hbits hg => ?_
  have inK := hY w _ Y
  obtain ⟨fd, hb, hT⟩ := T w mg fa _ inK G.T.g hmg
  exact top_call (sp := sp w) inK G.T.g G.T.b G.T.builtins G.T.nolimit hg hobj hints (Nat.le_trans hlen hn2) hT hb fun H only sq => hsp w H a ns hlen hbits only sq
/-- the law answers True -/
theorem law_sp {K : PySem.W.Frag} {f : Fv W0} {H : Hp} {a : Addr} {ns : List Int} (only : Only H) (sq : SqL K H a (ns.map V.int)) (h : ∃ s', f [.wlst (ns.map Val.int)] () = .ok (.sh (.bl true)) s') : VSp W0 K 1 f [.ref a] H (fun v _ => v = .bl true) fun _ _ _ => False := by
  have rw0 : RelW W0 ⟨H, fun _ => False, fun _ _ => False⟩ () H := by
    refine ⟨Sub.refl _, fun a ws e => ?_, fun b => ⟨fun l e => ?_, fun l e => ?_⟩, fun a z => z⟩
    · exact e
    · rcases only b with z | ⟨o, xs, z⟩
      · have e : H b = some (.dK l) := e
        rw [z] at e; cases e
      · have e : H b = some (.dK l) := e
        rw [z] at e; cases e
    · rcases only b with z | ⟨o, xs, z⟩
      · have e : H b = some (.dT l) := e
        rw [z] at e; cases e
      · have e : H b = some (.dT l) := e
        rw [z] at e; cases e
  refine ⟨⟨H, fun _ => False, fun _ _ => False⟩, (), [.wlst (ns.map Val.int)], rw0, .cons (.lstW sq (Reps.ints ns)) .nil, rfl, ?_⟩
  obtain ⟨s', e⟩ := h
  rw [e]
  rintro G' H' v x r' ⟨A, ro, _⟩
  cases ro with
  | sh rp => exact rp.bl_inv
end VL

/-! VL20: odds and ends. -/
namespace VL
open PySem PySem.Spec PyProof.Rows L2
section
variable {W : Wo} {X : Cx} {E : WX} {T T' : List Nat} {st : Stmt} {sts : List Stmt} {c : Cm W}
theorem vs_mono (h : VS W X E T st c) (ht : ∀ i ∈ T, i ∈ T') : VS W X E T' st c := PS.imp h fun D σ H ⟨G, ρ, s, r, hq⟩ => ⟨G, ρ, s, r, PstS.mono ht hq⟩
theorem vss_mono (h : VSs W X E T sts c) (ht : ∀ i ∈ T, i ∈ T') : VSs W X E T' sts c := PSs.imp h fun D σ H ⟨G, ρ, s, r, hq⟩ => ⟨G, ρ, s, r, PstS.mono ht hq⟩
def subB (a b : List Nat) : Bool := a.all fun i => b.contains i
theorem sub_of {a b : List Nat} (h : subB a b = true) : ∀ i ∈ a, i ∈ b := fun i hi => by
  unfold subB at h
  rw [List.all_eq_true] at h
  have := h i hi
  simpa using this
end
section
variable {W : Wo} {X : Cx} {E : WX} {T : List Nat} {st : Stmt}
/-- what slot i owns is shared from here on -/
def cFrz (i : Nat) (c : Cm W) : Cm W := fun ρ s => match ρ[i]? with
  | some (some t) => if t.free = true then c (ρ.set i (some (.sh t.val))) s else .bad
  | _ => .bad
theorem frz_lk {c : Cm W} {i : Nat} {D : Ends} {σ : L2.St} {H : Hp} (hi : i ∈ T) (h : tS W X.K E T (cFrz i c) D σ H) : Lk (fun H' => tS W X.K E T c D σ H') H := by
  obtain ⟨G, ρ, s, r, hq⟩ := h
  unfold cFrz at hq
  split at hq
  · rename_i t e
    split at hq
    · rename_i hf
      obtain ⟨w, h1, ro⟩ := r.slot i t e
      have hA : ∀ a, G.ad i a → G.F a = none ∧ ¬ G.fp a := fun a z => ⟨(r.own i a z).1, (r.own i a z).2.2⟩
      refine (ro.frz r.toRelW hA hf).bind fun H' ⟨G', f, rp⟩ => .here ?_
      have il : i < ρ.length := (List.getElem?_eq_some_iff.mp e).1
      have rel : Rel W X.K (G'.put i fun _ => False) (ρ.set i (some (.sh t.val))) s σ H' := by
        refine ⟨⟨f.rw'.sub, f.rw'.tups, f.rw'.lk, f.rw'.wrl⟩, by rw [List.length_set]; exact r.len, fun j t' ej => ?_, fun j a z => ?_, fun j k a hjk z y => ?_⟩
        · by_cases q : j = i
          · subst q
            rw [List.getElem?_set_self il] at ej
            cases ej
            exact ⟨w, h1, .sh rp⟩
          · rw [List.getElem?_set_ne (Ne.symm q)] at ej
            obtain ⟨w', h3, h4⟩ := r.slot j t' ej
            refine ⟨w', h3, h4.mono f.sub (fun a z => ?_) fun a z => (f.off a fun y => r.dis j i a q z y).1⟩
            rw [Gh.put_ne q, f.ad]; exact z
        · by_cases q : j = i
          · subst q; rw [Gh.put_same] at z; exact z.elim
          · rw [Gh.put_ne q, f.ad] at z
            have na : ¬ G.ad i a := fun y => r.dis j i a q z y
            show G'.F a = none ∧ _ ∧ ¬ G'.fp a
            rw [(f.off a na).1, (f.off a na).2, f.fp]
            exact r.own j a z
        · by_cases q : j = i
          · subst q; rw [Gh.put_same] at z; exact z
          · by_cases q2 : k = i
            · subst q2; rw [Gh.put_same] at y; exact y
            · rw [Gh.put_ne q, f.ad] at z
              rw [Gh.put_ne q2, f.ad] at y
              exact r.dis j k a hjk z y
      have ns : Ns T G (G'.put i fun _ => False) H H' := Ns.put (G := G') (H := H') ⟨f.sub, fun a o e n d => by rw [(f.off a fun z => d i hi z).1]; exact e, fun a h => (by
          cases q : H a with
          | none => rfl
          | some o => obtain ⟨o', e'⟩ := f.on a o q; rw [h] at e'; cases e'), fun j _ => by rw [f.ad], fun j a hj z => by rw [f.ad] at z; exact .inl ⟨j, hj, z⟩, fun a z => by rw [f.fp] at z; exact .inl z, fun a o e => by
          by_cases z : G.ad i a
          · exact .inr (.inr (.inr (.inl ⟨i, hi, z⟩)))
          · rw [(f.off a z).2] at e; exact .inl e⟩ hi fun _ z => z.elim
      exact ⟨_, _, s, rel, PstS.from ns (Off.set hi) (Off.refl _ _) hq⟩
    · exact .here (hq.elim)
  · exact .here (hq.elim)
theorem vs_frz {c : Cm W} (i : Nat) (hi : i ∈ T) (h : VS W X E T st c) : VS W X E T st (cFrz i c) := PS.imp (ps_lk h) fun D σ H q => frz_lk hi q
/-- .. behind the statement -/
theorem ps_lkE {t : TS} (h : PS X st t) : PS X st fun D σ H => t { D with nx := fun σ' H' => Lk (fun H2 => D.nx σ' H2) H' } σ H := ⟨fun pins s σ H D I hw =>
  thn (h.run pins s σ H _ I hw) fun f s1 q => by
    cases f with
    | next =>
      obtain ⟨σ', H', I', q⟩ := q
      obtain ⟨H2, I2, q2⟩ := q.inv I'
      exact ⟨σ', H2, I2, q2⟩
    | brk => exact q
    | cont => exact q
    | ret v => exact q⟩
def cThenF (i : Nat) (c : Cm W) : Cm W := fun ρ s => (c ρ s).then (cFrz i cNx)
theorem vs_thenF {c : Cm W} (i : Nat) (hi : i ∈ T) (h : VS W X E T st c) : VS W X E T st (cThenF i c) := PS.imp (ps_lkE h) fun D σ H ⟨G, ρ, s, r, hq⟩ =>
  ⟨G, ρ, s, r, PstS.ends (PstS.then hq) (fun σ' H' q => (frz_lk hi q).bind fun H2 ⟨G2, ρ2, s2, r2, q2⟩ => .here (q2.nx' r2)) (fun _ _ q => q) (fun _ _ q => q) fun _ _ q => q⟩
end
section
variable {W : Wo} {P : Program} {w : World} {K : PySem.W.Frag} {mg : Str → Option Value} {base : Heap}
/-- the law's def -/
theorem Fun.topV {x qual p : Str} {st : Stmt} {f : Addr} {fd : FuncData} {N : List Str} {k : Nat} {T : List Nat} {c : Cm W} (F : Fun K x qual st f fd) (S : FnScope N [p] (defScope st)) (hN : 1 ≤ N.length) (hr : Room (k + 1) callerA)
    (hbody : ∀ (cdv : Value) (s : Shared) (H : Hp) (EX : XK), Room k (callerA.deeper (envOfC qual (defScope st) s.heap.objs.size f cdv)) → VSs W (cxV P w K mg base N qual (defScope st) f cdv callerA [] s H EX) eN T (defBody st) c) :
    TopRun P w K mg base f fd p (VSp W K 1 (cDef0 N.length c)) := by
  refine Fun.top F S hr fun cdv s H v Q E hr h => ?_
  obtain ⟨G, s0, xs, r, rs, hl, h⟩ := h
  refine ⟨_, hbody cdv s H E hr, def_run (EX := fun _ _ _ => False) r rs (by omega) ?_ fun _ _ _ _ z => z⟩
  have h : PstC W K G H (cDef N.length c xs s0).calm Q E := h
  cases q : cDef N.length c xs s0 with
  | bad => rw [q] at h; exact h.elim
  | ok t s' => rw [q] at h; exact h
  | exc cc n s' => rw [q] at h; exact h.elim
end
end VL
namespace VL
open PySem PySem.Spec PyProof.Rows L2
/-- a def that may be called -/
def Cal {W : Wo} (P : Program) (w : World) (K : PySem.W.Frag) (mg : Str → Option Value) (base : Heap) (x : Str) (k n : Nat) (F : Fv W) : Prop :=
  ∃ (f : Addr) (fd : FuncData) (ps : List Str), FnOk P w K mg base CX0 k f fd ps (VSp W K n F) ∧ mg x = some (.ref f) ∧ PySem.W.keepIn K (.ref f) = true ∧ Binds K fd ps []
section
variable {W : Wo} {X : Cx} {E : WX} {k n : Nat} {F : Fv W} {x : Str} {p pos : Pos} {e : Expr} {es : List Expr} {fs : Sm W (List Val)}
theorem vf_cal (C : Cal X.prog X.w X.K X.mg X.base x k n F) (hr : Room k X.A) (hg : Gl X x) (ha : VA W X E (e :: es) fs) (hdb : (x == ("__debug__" : Str)) = false := by decide)
    (he : starEach (e :: es) X.env = (false, eval e X.env) :: starEach es X.env := by rfl) (hpl : (backTo pos (starEach es X.env)).any (·.1) = false := by rfl) : VF W X E (.Call (.Name x p) (e :: es) [] pos) (fCall n F fs) := by
  obtain ⟨f, fd, ps, ok, m, kp, b⟩ := C
  exact vf_call ok hr hg m kp b pass_0 ha hdb he hpl
theorem vf_cal0 (C : Cal X.prog X.w X.K X.mg X.base x k n F) (hr : Room k X.A) (hg : Gl X x) (hdb : (x == ("__debug__" : Str)) = false := by decide) : VF W X E (.Call (.Name x p) [] [] pos) (fCall n F eNil) := by
  obtain ⟨f, fd, ps, ok, m, kp, b⟩ := C
  exact vf_call0 ok hr hg m kp b pass_0 hdb
/-- -x -/
def gNeg : Val → Option Val
  | .int i => some (.int (-i))
  | _ => none
theorem ve_neg {a : Expr} {f : Ev W} (ha : VB W X E a f) : VE W X E (.UnaryOp .USub a pos) (e1 gNeg f) := PE.imp (pe_un un_neg ha) fun σ H Q hq => by
  refine (tG.bind (P := pB X.K) hq).mono ?_
  rintro w H1 ⟨G, ρ, s, v, r, ⟨B, sb, nb, rp⟩, h'⟩
  obtain ⟨u, e, h'⟩ := Pst.opt h'
  unfold gNeg at e
  split at e
  · cases e
    cases rp.int_inv
    exact ⟨_, rfl, h'.done r (.int _)⟩
  · cases e
end
end VL

/-! VL21: reckoning with the semantics: rows of turns, comprehensions, dicts by their keys. -/
namespace VL
open PySem PySem.Spec PyProof.Rows L2
/-! ### 1. dicts by keys -/
section
variable {κ : Type} [DecidableEq κ]
/-- how keys are written as values -/
structure Enc (κ : Type) where
  e : κ → Val
  c : κ → DK
  b : Bool
  key : ∀ k, dkey (e k) = some (c k)
  inj : ∀ a b, c a = c b → a = b
  isT : ∀ k, DK.isT (c k) = b
def Enc.d (E : Enc κ) (l : List (κ × Val)) : List (Val × Val) := l.map fun p => (E.e p.1, p.2)
def getL {α : Type} (l : List (κ × α)) (k : κ) : Option α := (l.find? fun p => decide (p.1 = k)).map (·.2)
def putL {α : Type} (l : List (κ × α)) (k : κ) (v : α) : List (κ × α) := if (l.any fun p => decide (p.1 = k)) = true then l.map (fun p => if p.1 = k then (p.1, v) else p) else l ++ [(k, v)]
variable (E : Enc κ)
theorem Enc.iff (a b : κ) : dkey (E.e a) = some (E.c b) ↔ a = b := by
  rw [E.key]
  exact ⟨fun h => E.inj _ _ (Option.some.inj h), fun h => by rw [h]⟩
theorem Enc.get (k : κ) : ∀ l : List (κ × Val), vget (E.d l) (E.c k) = getL l k
  | [] => rfl
  | p :: l => by
    have ih := Enc.get k l
    unfold vget getL Enc.d at *
    rw [List.map_cons, List.find?_cons, List.find?_cons]
    by_cases q : p.1 = k
    · subst q
      have h1 := E.key p.1
      simp only [h1, decide_true]
      rfl
    · have h1 : ¬ dkey (E.e p.1) = some (E.c k) := fun z => q ((E.iff _ _).mp z)
      simp only [h1, q, decide_false]
      exact ih
theorem Enc.any (k : κ) : ∀ l : List (κ × Val), ((E.d l).any fun p => decide (dkey p.1 = some (E.c k))) = l.any fun p => decide (p.1 = k)
  | [] => rfl
  | p :: l => by
    show (((E.e p.1, p.2) :: E.d l).any _) = _
    rw [List.any_cons, List.any_cons, Enc.any k l]
    congr 1
    exact decide_eq_decide.mpr (E.iff _ _)
theorem Enc.put (k : κ) (v : Val) (l : List (κ × Val)) : vput (E.d l) (E.e k) (E.c k) v = E.d (putL l k v) := by
  unfold vput putL
  rw [E.any]
  split
  · unfold Enc.d
    rw [List.map_map, List.map_map]
    apply List.map_congr_left
    intro p _
    by_cases q : p.1 = k
    · have h1 := (E.iff p.1 k).mpr q
      show (if dkey (E.e p.1) = some (E.c k) then (E.e p.1, v) else (E.e p.1, p.2)) = (E.e (if p.1 = k then (p.1, v) else p).1, (if p.1 = k then (p.1, v) else p).2)
      rw [if_pos h1, if_pos q]
    · have h1 : ¬ dkey (E.e p.1) = some (E.c k) := fun z => q ((E.iff _ _).mp z)
      show (if dkey (E.e p.1) = some (E.c k) then (E.e p.1, v) else (E.e p.1, p.2)) = (E.e (if p.1 = k then (p.1, v) else p).1, (if p.1 = k then (p.1, v) else p).2)
      rw [if_neg h1, if_neg q]
  · unfold Enc.d; rw [List.map_append]; rfl
theorem Enc.dget (k : κ) (l : List (κ × Val)) : VL.dget E.b (E.d l) (E.e k) = some (getL l k) := by
  unfold VL.dget
  rw [E.key]
  show (if DK.isT (E.c k) = E.b then some (vget (E.d l) (E.c k)) else none) = _
  rw [if_pos (E.isT k), E.get]
theorem getL_map {α β : Type} (f : α → β) (k : κ) : ∀ l : List (κ × α), getL (l.map fun p => (p.1, f p.2)) k = (getL l k).map f
  | [] => rfl
  | p :: l => by
    have ih := getL_map f k l
    unfold getL at *
    rw [List.map_cons, List.find?_cons, List.find?_cons]
    by_cases q : p.1 = k
    · simp [q]
    · simp only [q, decide_false]
      exact ih
theorem getL_some {α : Type} {k : κ} {v : α} : ∀ {l : List (κ × α)}, getL l k = some v → (k, v) ∈ l
  | [], h => by cases h
  | p :: l, h => by
    unfold getL at h
    rw [List.find?_cons] at h
    by_cases q : p.1 = k
    · simp [q] at h
      rw [← q, ← h]; exact List.mem_cons_self
    · simp only [q, decide_false] at h
      exact List.mem_cons_of_mem _ (getL_some (l := l) h)
theorem getL_of_mem {α : Type} {k : κ} {v : α} : ∀ {l : List (κ × α)}, (l.map (·.1)).Nodup → (k, v) ∈ l → getL l k = some v
  | [], _, h => by cases h
  | p :: l, hn, h => by
    rw [List.map_cons, List.nodup_cons] at hn
    unfold getL
    rw [List.find?_cons]
    rcases List.mem_cons.mp h with rfl | h
    · simp
    · have q : ¬ p.1 = k := fun e => hn.1 (by rw [e]; exact List.mem_map.mpr ⟨_, h, rfl⟩)
      simp only [q, decide_false]
      exact getL_of_mem hn.2 h
theorem getL_none {α : Type} {k : κ} : ∀ {l : List (κ × α)}, getL l k = none ↔ k ∉ l.map (·.1)
  | [] => by simp [getL]
  | p :: l => by
    have ih := getL_none (k := k) (l := l)
    unfold getL at *
    rw [List.find?_cons, List.map_cons, List.mem_cons]
    by_cases q : p.1 = k
    · simp [q]
    · simp only [q, decide_false]
      rw [ih]
      simp [Ne.symm q]
theorem putL_new {α : Type} {l : List (κ × α)} {k : κ} {v : α} (h : k ∉ l.map (·.1)) : putL l k v = l ++ [(k, v)] := by
  unfold putL
  rw [if_neg]
  intro z
  obtain ⟨p, hp, e⟩ := List.any_eq_true.mp z
  exact h (List.mem_map.mpr ⟨p, hp, of_decide_eq_true e⟩)
end
/-- pairs of whole numbers; whole numbers -/
abbrev PP := Int × Int
def pv (p : PP) : Val := .tup [.int p.1, .int p.2]
def encP : Enc PP where
  e := pv
  c p := .inr [.inl p.1, .inl p.2]
  b := true
  key _ := rfl
  inj a b h := by
    obtain ⟨a1, a2⟩ := a
    obtain ⟨b1, b2⟩ := b
    cases h
    rfl
  isT _ := rfl
def encI : Enc Int where
  e := .int
  c n := .inl (.inl n)
  b := false
  key _ := rfl
  inj a b h := Sum.inl.inj (Sum.inl.inj h)
  isT _ := rfl

/-! ### 2. rows of turns -/
theorem forS_inv {W : Wo} {p : Pu} {b : Cm W} (I : Nat → En → W.S → Prop) : ∀ {xs : List Val} {n : Nat} {ρ : En} {s : W.S}, I n ρ s →
    (∀ i x ρ s, xs[i]? = some x → I (n + i) ρ s → ∃ ρ1, p x ρ = some ρ1 ∧ ∃ ρ2 s2, (b ρ1 s = .nx ρ2 s2 ∨ b ρ1 s = .ct ρ2 s2) ∧ I (n + i + 1) ρ2 s2) → ∃ ρ2 s2, forS p b xs ρ s = .nx ρ2 s2 ∧ I (n + xs.length) ρ2 s2
  | [], n, ρ, s, h0, _ => ⟨ρ, s, rfl, h0⟩
  | x :: xs, n, ρ, s, h0, h => by
    obtain ⟨ρ1, e1, ρ2, s2, e2, h2⟩ := h 0 x ρ s rfl h0
    obtain ⟨ρ3, s3, e3, h3⟩ := forS_inv (xs := xs) (n := n + 1) I h2 (fun i y ρ s hi hI => by
      have := h (i + 1) y ρ s (by simpa using hi) (by have e : n + (i + 1) = n + 1 + i := by omega
                                                      rw [e]; exact hI)
      have e : n + (i + 1) + 1 = n + 1 + i + 1 := by omega
      rw [e] at this
      exact this)
    refine ⟨ρ3, s3, ?_, by rw [List.length_cons]; have e : n + (xs.length + 1) = n + 1 + xs.length := by omega
                           rw [e]; exact h3⟩
    unfold forS
    rw [e1]
    rcases e2 with e2 | e2 <;> simp only [e2] <;> exact e3
theorem compS_map {W : Wo} {ρ : En} {vs : List Nat} {i : Nat} {t : Sm W Bool} {f : Ev W} {s : W.S} (Pd : Val → Bool) (g : Val → Val) : ∀ {xs acc : List Val}, (∀ x ∈ xs, t ((wipeE ρ vs).set i (some (.sh x))) s = .ok (Pd x) s) →
    (∀ x ∈ xs, Pd x = true → f ((wipeE ρ vs).set i (some (.sh x))) s = .ok (g x) s) → acc.length + xs.length ≤ sizeLine → compS ρ vs (puN i) t f xs acc s = .ok (.oL (acc ++ (xs.filter Pd).map g)) s
  | [], acc, _, _, _ => by simp [compS]
  | x :: xs, acc, h1, h2, hz => by
    have hx := h1 x List.mem_cons_self
    have ih := fun acc' => compS_map (acc := acc') Pd g (fun y hy => h1 y (List.mem_cons_of_mem _ hy)) (fun y hy => h2 y (List.mem_cons_of_mem _ hy))
    rw [List.length_cons] at hz
    unfold compS
    simp only [puN, hx]
    by_cases q : Pd x = true
    · rw [if_pos q]
      simp only [h2 x List.mem_cons_self q]
      rw [if_pos (by omega), ih _ (by rw [List.length_append, List.length_singleton]; omega), List.filter_cons, if_pos q]
      simp
    · rw [if_neg q, ih _ (by omega), List.filter_cons, if_neg q]
def putsV (m : List (Val × Val)) (ps : List (Val × Val)) : List (Val × Val) := ps.foldl (fun m p => match dkey p.1 with
  | some d => vput m p.1 d p.2
  | none => m) m
theorem vput_len (m : List (Val × Val)) (k : Val) (d : DK) (v : Val) : (vput m k d v).length ≤ m.length + 1 := by
  unfold vput
  split
  · rw [List.length_map]; omega
  · rw [List.length_append, List.length_singleton]; exact Nat.le_refl _
theorem compD_map {W : Wo} {b : Bool} {ρ : En} {vs : List Nat} {i : Nat} {t : Sm W Bool} {kf vf : Ev W} {s : W.S} (Pd : Val → Bool) (k g : Val → Val) : ∀ {xs : List Val} {acc : List (Val × Val)}, (∀ x ∈ xs, t ((wipeE ρ vs).set i (some (.sh x))) s = .ok (Pd x) s) →
    (∀ x ∈ xs, Pd x = true → kf ((wipeE ρ vs).set i (some (.sh x))) s = .ok (k x) s ∧ vf ((wipeE ρ vs).set i (some (.sh x))) s = .ok (g x) s ∧ ∃ d, dkey (k x) = some d ∧ DK.isT d = b) → acc.length + xs.length ≤ sizeLine →
    compD b ρ vs (puN i) t kf vf xs acc s = .ok (.oD b (putsV acc ((xs.filter Pd).map fun x => (k x, g x)))) s
  | [], acc, _, _, _ => by simp [compD, putsV]
  | x :: xs, acc, h1, h2, hz => by
    have hx := h1 x List.mem_cons_self
    have ih := fun acc' => compD_map (acc := acc') Pd k g (fun y hy => h1 y (List.mem_cons_of_mem _ hy)) (fun y hy => h2 y (List.mem_cons_of_mem _ hy))
    rw [List.length_cons] at hz
    unfold compD
    simp only [puN, hx]
    by_cases q : Pd x = true
    · obtain ⟨e1, e2, d, e3, e4⟩ := h2 x List.mem_cons_self q
      rw [if_pos q]
      simp only [e1, e2, e3]
      have := vput_len acc (k x) d (g x)
      rw [if_pos ⟨e4, by omega⟩, ih _ (by omega), List.filter_cons, if_pos q]
      simp [putsV, e3]
    · rw [if_neg q, ih _ (by omega), List.filter_cons, if_neg q]
theorem Enc.puts {κ : Type} [DecidableEq κ] (E : Enc κ) : ∀ (ps l : List (κ × Val)), (l.map (·.1) ++ ps.map (·.1)).Nodup → putsV (E.d l) (E.d ps) = E.d (l ++ ps)
  | [], l, _ => by simp [putsV, Enc.d]
  | p :: ps, l, hn => by
    have h1 : putsV (E.d l) (E.d (p :: ps)) = putsV (vput (E.d l) (E.e p.1) (E.c p.1) p.2) (E.d ps) := by
      show putsV (E.d l) ((E.e p.1, p.2) :: E.d ps) = _
      unfold putsV
      rw [List.foldl_cons, E.key]
    have hp : p.1 ∉ l.map (·.1) := fun z => by
      rw [List.map_cons, List.nodup_append] at hn
      exact hn.2.2 _ z _ List.mem_cons_self rfl
    rw [h1, E.put, putL_new hp, Enc.puts E ps _ (by
      rw [List.map_append, List.append_assoc]
      simpa using hn), List.append_assoc]
    rfl

/-! ### 3. pairs in order -/
def leP (p q : PP) : Bool := decide (p.1 < q.1 ∨ (p.1 = q.1 ∧ p.2 ≤ q.2))
theorem leV_pv (p q : PP) : leV (pv p) (pv q) = leP p q := by
  have h := congrFun (congrFun (PySem.W.dataLe_ii (β := PP) (fun b => b.1) (fun b => b.2)) p) q
  exact h
theorem leP_trans (a b c : PP) (h1 : leP a b = true) (h2 : leP b c = true) : leP a c = true := by
  unfold leP at *
  have h1 := of_decide_eq_true h1
  have h2 := of_decide_eq_true h2
  exact decide_eq_true (by omega)
theorem leP_total (a b : PP) : (leP a b || leP b a) = true := by
  unfold leP
  rw [Bool.or_eq_true, decide_eq_true_eq, decide_eq_true_eq]
  omega
theorem leP_anti (a b : PP) (h1 : leP a b = true) (h2 : leP b a = true) : a = b := by
  unfold leP at *
  have h1 := of_decide_eq_true h1
  have h2 := of_decide_eq_true h2
  obtain ⟨a1, a2⟩ := a
  obtain ⟨b1, b2⟩ := b
  simp only at h1 h2
  have e1 : a1 = b1 := by omega
  have e2 : a2 = b2 := by omega
  rw [e1, e2]
def sortP (l : List PP) : List PP := l.mergeSort leP
theorem sortP_vals (l : List PP) : (l.map pv).mergeSort leV = (sortP l).map pv := by
  unfold sortP
  rw [List.map_mergeSort (f := pv) (r := leP) (s := leV) (l := l) fun a _ b _ => (leV_pv a b).symm]
theorem sortP_perm (l : List PP) : (sortP l).Perm l := List.mergeSort_perm _ _
theorem sortP_eq {l m : List PP} (h : l.Perm m) : sortP l = sortP m := by
  apply List.Perm.eq_of_pairwise (le := fun a b => leP a b = true)
  · intro a b _ _ h1 h2; exact leP_anti a b h1 h2
  · exact List.pairwise_mergeSort leP_trans leP_total l
  · exact List.pairwise_mergeSort leP_trans leP_total m
  · exact (sortP_perm l).trans (h.trans (sortP_perm m).symm)
theorem pures_pv : ∀ l : List PP, Val.pures (l.map pv) = true
  | [] => rfl
  | _ :: l => pures_pv l
theorem alike_pv (p q : PP) : PySem.W.alike (pv p).toD (pv q).toD = true := by
  show PySem.W.alike (.tuple [.int p.1, .int p.2]) (.tuple [.int q.1, .int q.2]) = true
  simp [PySem.W.alike, PySem.W.alikeAll]
theorem sortOk_pv {l : List PP} (h : l.length ≤ sizeLine) : sortOk (l.map pv) = true := by
  have e1 : Val.toDs (l.map pv) = l.map fun p => (pv p).toD := by rw [toDs_map, List.map_map]; rfl
  have h1 : allAlikeB (Val.toDs (l.map pv)) = true := by
    rw [e1]
    unfold allAlikeB
    rw [List.all_eq_true]
    intro d hd
    obtain ⟨p, _, rfl⟩ := List.mem_map.mp hd
    rw [List.all_eq_true]
    intro d' hd'
    obtain ⟨q, _, rfl⟩ := List.mem_map.mp hd'
    exact alike_pv p q
  have h2 : sortableB (Val.toDs (l.map pv)) = true := by
    rw [e1]
    unfold sortableB
    rw [Bool.or_eq_true]
    refine .inl ?_
    rw [List.all_eq_true]
    intro d hd
    obtain ⟨p, _, rfl⟩ := List.mem_map.mp hd
    rfl
  have h3 : (l.map pv).all dep50 = true := by
    rw [List.all_eq_true]
    intro v hv
    obtain ⟨p, _, rfl⟩ := List.mem_map.mp hv
    rfl
  unfold sortOk
  rw [pures_pv, h1, h2, h3, List.length_map, decide_eq_true h]
  rfl
theorem sortL_pv {l : List PP} (h : l.length ≤ sizeLine) : sortL (l.map pv) = some ((sortP l).map pv) := by
  unfold sortL
  rw [if_pos (sortOk_pv h), sortP_vals]
end VL

/-! VL22: the semantics' equations, for simp. -/
namespace VL
open PySem PySem.Spec PyProof.Rows L2
section
variable {W : Wo} {S α β : Type} {ρ ρ' : En} {s s1 : W.S} {σ : S}
@[simp] theorem s_bind (a : α) (f : α → S → R S β) : (R.ok a σ).bind f = f a σ := rfl
@[simp] theorem s_go (a : α) (f : α → S → Out S) : (R.ok a σ).go ρ f = f a σ := rfl
@[simp] theorem s_opt (a : α) : R.opt (some a) σ = .ok a σ := rfl
@[simp] theorem s_calm (a : α) : (R.ok a σ).calm = .ok a σ := rfl
@[simp] theorem s_nx (f : En → S → Out S) : (Out.nx ρ σ).then f = f ρ σ := rfl
@[simp] theorem s_rt (t : OT) (f : En → S → Out S) : (Out.rt t σ).then f = .rt t σ := rfl
@[simp] theorem s_ct (f : En → S → Out S) : (Out.ct ρ σ).then f = .ct ρ σ := rfl
@[simp] theorem s_bk (f : En → S → Out S) : (Out.bk ρ σ).then f = .bk ρ σ := rfl
@[simp] theorem s_fnx : (Out.nx ρ σ).fin = .ok (.sh .non) σ := rfl
@[simp] theorem s_frt (t : OT) : (Out.rt t σ).fin = .ok t σ := rfl
@[simp] theorem s_eC (v : Val) : (eC v : Ev W) ρ s = .ok v s := rfl
theorem s_pVar (i : Nat) (t : OT) (h : ρ[i]? = some (some t)) : (pVar i : Sm W OT) ρ s = .ok t s := by unfold pVar; rw [h]
@[simp] theorem s_pVar' (i : Nat) : (pVar i : Sm W OT) ρ s = match ρ[i]? with | some (some t) => .ok t s | _ => .bad := rfl
@[simp] theorem s_eP (p : Sm W OT) : eP p ρ s = (p ρ s).bind fun t s1 => R.opt t.shv s1 := rfl
@[simp] theorem s_shv (v : Val) : (OT.sh v).shv = some v := rfl
@[simp] theorem s_bP (p : Sm W OT) : bP p ρ s = (p ρ s).bind fun t s1 => .ok t.val s1 := rfl
@[simp] theorem s_val (v : Val) : (OT.sh v).val = v := rfl
@[simp] theorem s_valL (v : List Val) : (OT.oL v).val = .lst v := rfl
@[simp] theorem s_valD (b : Bool) (v : List (Val × Val)) : (OT.oD b v).val = .dic b v := rfl
@[simp] theorem s_valR (b : Bool) (v : List (Val × Val)) : (OT.oR b v).val = .dic b v := rfl
@[simp] theorem s_pE (f : Ev W) : pE f ρ s = (f ρ s).bind fun v s1 => .ok (.sh v) s1 := rfl
@[simp] theorem s_eF (f : Sm W OT) : eF f ρ s = (f ρ s).bind fun t s1 => if t.free = true then .ok t.val s1 else .bad := rfl
@[simp] theorem s_fr1 (v : Val) : (OT.sh v).free = true := rfl
@[simp] theorem s_fr2 (v : List Val) : (OT.oL v).free = true := rfl
@[simp] theorem s_fr3 (b : Bool) (v : List (Val × Val)) : (OT.oD b v).free = true := rfl
@[simp] theorem s_e2 (g : Val → Val → Option Val) (a b : Ev W) : e2 g a b ρ s = (a ρ s).bind fun x s1 => (b ρ s1).bind fun y s2 => R.opt (g x y) s2 := rfl
@[simp] theorem s_e1 (g : Val → Option Val) (a : Ev W) : e1 g a ρ s = (a ρ s).bind fun x s1 => R.opt (g x) s1 := rfl
@[simp] theorem s_tst (f : Ev W) : tst f ρ s = (f ρ s).bind fun v s1 => match v with | .bl b => .ok b s1 | _ => .bad := rfl
@[simp] theorem s_and (t u : Sm W Bool) : tAndS t u ρ s = (t ρ s).bind fun c s1 => if c = true then u ρ s1 else .ok false s1 := rfl
@[simp] theorem s_or (t u : Sm W Bool) : tOrS t u ρ s = (t ρ s).bind fun c s1 => if c = true then .ok true s1 else u ρ s1 := rfl
@[simp] theorem s_not (t : Sm W Bool) : tNotS t ρ s = (t ρ s).bind fun c s1 => .ok (!c) s1 := rfl
@[simp] theorem s_andV (f g : Ev W) : eAndV f g ρ s = (tst f ρ s).bind fun c s1 => if c = true then g ρ s1 else .ok (.bl false) s1 := rfl
@[simp] theorem s_orV (f g : Ev W) : eOrV f g ρ s = (tst f ρ s).bind fun c s1 => if c = true then .ok (.bl true) s1 else g ρ s1 := rfl
@[simp] theorem s_notV (f : Ev W) : eNotV f ρ s = (tst f ρ s).bind fun c s1 => .ok (.bl (!c)) s1 := rfl
@[simp] theorem s_if (t : Sm W Bool) (f g : Sm W α) : eIf t f g ρ s = (t ρ s).bind fun c s1 => if c = true then f ρ s1 else g ρ s1 := rfl
@[simp] theorem s_nil : (eNil : Sm W (List Val)) ρ s = .ok [] s := rfl
@[simp] theorem s_cons (f : Ev W) (r : Sm W (List Val)) : eCons f r ρ s = (f ρ s).bind fun v s1 => (r ρ s1).bind fun vs s2 => .ok (v :: vs) s2 := rfl
@[simp] theorem s_tTrue : (tTrue : Sm W Bool) ρ s = .ok true s := rfl
theorem s_small {n : Nat} {a : α} (h : n ≤ sizeLine) : (small n a s : R W.S α) = .ok a s := by unfold small; rw [if_pos h]
@[simp] theorem s_lst (fs : Sm W (List Val)) : fLst fs ρ s = (fs ρ s).bind fun vs s1 => small vs.length (.oL vs) s1 := rfl
@[simp] theorem s_tup (fs : Sm W (List Val)) : eTup fs ρ s = (fs ρ s).bind fun vs s1 => small vs.length (.tup vs) s1 := rfl
@[simp] theorem s_d0 (b : Bool) : (fD0 b : Sm W OT) ρ s = .ok (.oD b []) s := rfl
@[simp] theorem s_ix (p : Sm W OT) (f : Ev W) : pIx p f ρ s = (p ρ s).bind fun t s1 => (f ρ s1).bind fun v s2 => R.opt (ixO t v) s2 := rfl
@[simp] theorem s_dg (p : Sm W OT) (f : Ev W) : eDg p f ρ s = (p ρ s).bind fun t s1 => (f ρ s1).bind fun v s2 => R.opt ((dgO t v).bind id) s2 := rfl
@[simp] theorem s_cl (g : List Val → Option Val) (fs : Sm W (List Val)) : eCl g fs ρ s = (fs ρ s).bind fun vs s1 => R.opt (g vs) s1 := rfl
@[simp] theorem s_fcl (g : OT → Option OT) (p : Sm W OT) : fCl g p ρ s = (p ρ s).bind fun t s1 => R.opt (g t) s1 := rfl
@[simp] theorem s_call (n : Nat) (F : Fv W) (fs : Sm W (List Val)) : fCall n F fs ρ s = (fs ρ s).bind fun xs s1 => if xs.length = n then F xs s1 else .bad := rfl
@[simp] theorem s_iOf (g : OT → Option (List Val)) (p : Sm W OT) : iOf g p ρ s = (p ρ s).bind fun t s1 => R.opt (g t) s1 := rfl
@[simp] theorem s_cNx : (cNx : Cm W) ρ s = .nx ρ s := rfl
@[simp] theorem s_cCt : (cCt : Cm W) ρ s = .ct ρ s := rfl
@[simp] theorem s_cBk : (cBk : Cm W) ρ s = .bk ρ s := rfl
@[simp] theorem s_seq (c d : Cm W) : cSeq c d ρ s = (c ρ s).then d := rfl
@[simp] theorem s_set (i : Nat) (f : Ev W) : cSet i f ρ s = (f ρ s).go ρ fun v s1 => .nx (ρ.set i (some (.sh v))) s1 := rfl
@[simp] theorem s_setF (i : Nat) (f : Sm W OT) : cSetF i f ρ s = (f ρ s).go ρ fun t s1 => .nx (ρ.set i (some t)) s1 := rfl
@[simp] theorem s_cif (t : Sm W Bool) (c d : Cm W) : cIf t c d ρ s = (t ρ s).go ρ fun b s1 => if b = true then c ρ s1 else d ρ s1 := rfl
@[simp] theorem s_ret (f : Ev W) : cRet f ρ s = (f ρ s).go ρ fun v s1 => .rt (.sh v) s1 := rfl
@[simp] theorem s_retF (f : Sm W OT) : cRetF f ρ s = (f ρ s).go ρ fun t s1 => .rt t s1 := rfl
@[simp] theorem s_app (i : Nat) (π : List Nat) (f : Ev W) : cApp i π f ρ s = match ownAt ρ i π with
  | some (t, .oL vs) => (f ρ s).go ρ fun v s1 => if vs.length < sizeLine then .nx (ρ.set i (some (OT.up π t (.oL (vs ++ [v]))))) s1 else .bad
  | _ => .bad := rfl
@[simp] theorem s_ext (i : Nat) (π : List Nat) (f : Ev W) : cExt i π f ρ s = match ownAt ρ i π with
  | some (t, .oL vs) => (f ρ s).go ρ fun v s1 => match v with
    | .lst us => if vs.length + us.length ≤ sizeLine then .nx (ρ.set i (some (OT.up π t (.oL (vs ++ us))))) s1 else .bad
    | _ => .bad
  | _ => .bad := rfl
@[simp] theorem s_pop (j i : Nat) (π : List Nat) : (cPop j i π : Cm W) ρ s = match ownAt ρ i π with
  | some (t, .oL vs) => match vs[vs.length - 1]? with
    | some v => .nx ((ρ.set i (some (OT.up π t (.oL vs.dropLast)))).set j (some (.sh v))) s
    | none => .bad
  | _ => .bad := rfl
@[simp] theorem s_put (i : Nat) (π : List Nat) (k v : Ev W) : cPut i π k v ρ s = (v ρ s).go ρ fun y s1 => match ownAt ρ i π with
  | some _ => (k ρ s1).go ρ fun x s2 => match putD ρ i π x y with
    | some ρ' => .nx ρ' s2
    | none => .bad
  | none => .bad := rfl
@[simp] theorem s_own (i : Nat) (π : List Nat) : ownAt ρ i π = match ρ[i]? with
  | some (some t) => (OT.at π t).map fun t1 => (t, t1)
  | _ => none := rfl
@[simp] theorem s_at (t : OT) : OT.at [] t = some t := by cases t <;> rfl
@[simp] theorem s_up (t u : OT) : OT.up [] t u = u := by cases t <;> rfl
@[simp] theorem s_asg (p : Pu) (f : Ev W) : cAsg p f ρ s = (f ρ s).go ρ fun v s1 => match p v ρ with
  | some ρ' => .nx ρ' s1
  | none => .bad := rfl
@[simp] theorem s_for (f : Sm W (List Val)) (p : Pu) (b : Cm W) : cFor f p b ρ s = (f ρ s).go ρ fun xs s1 => forS p b xs ρ s1 := rfl
@[simp] theorem s_while (m : En → Nat) (t : Sm W Bool) (b : Cm W) : cWhile m t b ρ s = whileS t b (m ρ) ρ s := rfl
@[simp] theorem s_frz (i : Nat) (c : Cm W) : cFrz i c ρ s = match ρ[i]? with
  | some (some t) => if t.free = true then c (ρ.set i (some (.sh t.val))) s else .bad
  | _ => .bad := rfl
@[simp] theorem s_thenF (i : Nat) (c : Cm W) : cThenF i c ρ s = (c ρ s).then (cFrz i cNx) := rfl
@[simp] theorem s_flc (vs : List Nat) (it : Sm W (List Val)) (p : Pu) (t : Sm W Bool) (f : Ev W) : fLc vs it p t f ρ s = (it ρ s).bind fun xs s1 => compS ρ vs p t f xs [] s1 := rfl
@[simp] theorem s_fdc (b : Bool) (vs : List Nat) (it : Sm W (List Val)) (p : Pu) (t : Sm W Bool) (kf vf : Ev W) : fDc b vs it p t kf vf ρ s = (it ρ s).bind fun xs s1 => compD b ρ vs p t kf vf xs [] s1 := rfl
@[simp] theorem s_cat (p q : Sm W OT) : fCat p q ρ s = (p ρ s).bind fun t s1 => (q ρ s1).bind fun u s2 => match t.listI, u.listI with
  | some xs, some ys => if xs.length + ys.length ≤ sizeLine then .ok (.oL (xs ++ ys)) s2 else .bad
  | _, _ => .bad := rfl
@[simp] theorem s_items (p : Sm W OT) : fItems p ρ s = (p ρ s).bind fun t s1 => match t.dict with
  | some d => .ok (.oL (d.2.map fun p => .tup [p.1, p.2])) s1
  | none => .bad := rfl
@[simp] theorem s_li1 (xs : List Val) : (OT.sh (.lst xs)).listI = some xs := rfl
@[simp] theorem s_li2 (xs : List Val) : (OT.oL xs).listI = some xs := rfl
@[simp] theorem s_ki1 (b : Bool) (m : List (Val × Val)) : (OT.sh (.dic b m)).keysI = some (m.map (·.1)) := rfl
@[simp] theorem s_ki2 (b : Bool) (m : List (Val × Val)) : (OT.oR b m).keysI = some (m.map (·.1)) := rfl
@[simp] theorem s_di1 (b : Bool) (m : List (Val × Val)) : (OT.sh (.dic b m)).dict = some (b, m) := rfl
@[simp] theorem s_di2 (b : Bool) (m : List (Val × Val)) : (OT.oD b m).dict = some (b, m) := rfl
@[simp] theorem s_di3 (b : Bool) (m : List (Val × Val)) : (OT.oR b m).dict = some (b, m) := rfl
@[simp] theorem s_add (i j : Int) : gAdd (.int i) (.int j) = some (.int (i + j)) := rfl
@[simp] theorem s_sub (i j : Int) : gSub (.int i) (.int j) = some (.int (i - j)) := rfl
theorem s_mul {i j : Int} (h : i.natAbs.log2 + j.natAbs.log2 < 1000000) : gMul (.int i) (.int j) = some (.int (i * j)) := by
  show (if cMul i j then some (Val.int (i * j)) else none) = _
  rw [if_pos (show cMul i j = true from decide_eq_true h)]
theorem s_mod {i j : Int} (h : 0 < j) : gMod (.int i) (.int j) = some (.int (i % j)) := by
  show (if cMod i j then some (Val.int (i % j)) else none) = _
  rw [if_pos (show cMod i j = true from decide_eq_true h)]
theorem s_div {i j : Int} (h : 0 < j) (h2 : j.natAbs.log2 < 9000) : gDiv (.int i) (.int j) = some (.int (i / j)) := by
  show (if cDiv i j then some (Val.int (i / j)) else none) = _
  rw [if_pos (show cDiv i j = true by unfold cDiv; rw [decide_eq_true h, decide_eq_true h2]; rfl)]
@[simp] theorem s_lt (i j : Int) : gLt (.int i) (.int j) = some (.bl (decide (i < j))) := rfl
@[simp] theorem s_le (i j : Int) : gLe (.int i) (.int j) = some (.bl (decide (i ≤ j))) := rfl
@[simp] theorem s_gt (i j : Int) : gGt (.int i) (.int j) = some (.bl (decide (j < i))) := rfl
@[simp] theorem s_ge (i j : Int) : gGe (.int i) (.int j) = some (.bl (decide (j ≤ i))) := rfl
@[simp] theorem s_isN (b : Bool) (v : Val) : gIsN b v .non = some (.bl (v.isN != b)) := rfl
@[simp] theorem s_int1 (i : Int) : gInt [.int i] = some (.int i) := rfl
@[simp] theorem s_int2 (b : Bool) : gInt [.bl b] = some (.int (if b then 1 else 0)) := rfl
@[simp] theorem s_abs (i : Int) : gAbs [.int i] = some (.int (if i < 0 then -i else i)) := rfl
@[simp] theorem s_min (i j : Int) : gMin [.int i, .int j] = some (.int (if j < i then j else i)) := rfl
@[simp] theorem s_lenL (xs : List Val) : gLen [.lst xs] = some (.int xs.length) := rfl
@[simp] theorem s_lenV (xs : List Val) : gLen [.wlst xs] = some (.int xs.length) := rfl
@[simp] theorem s_puN (i : Nat) (v : Val) : puN i v ρ = some (ρ.set i (some (.sh v))) := rfl
end
end VL

/-! VL23: the laws' own draws and mixes. -/
namespace VL
open PySem PySem.Spec PyProof.Rows L2
section
variable {W : Wo} {u : W.S}
def cDraws : Cm W := (cSeq (cSetF 1 (fLst eNil)) (cSeq (cFor (iR1 (eCl gMin (eCons (eC (.int 63)) (eCons (eCl gLen (eCons (bP (pVar 0)) eNil)) eNil)))) (puN 2) (cSeq (cSet 3 (eCl gAbs (eCons (bP (pIx (pVar 0) (eP (pVar 2)))) eNil))) (cIf (tst (e2 gGe (bP (pVar 3)) (e2 gPow (eC (.int 10)) (eC (.int 18))))) (cFor (iR1 (eC (.int 60))) (puN 4) (cIf (tst (e2 gGt (bP (pVar 3)) (eC (.int 0)))) (cSeq (cApp 1 [] (e2 gMod (eCl gInt (eCons (bP (pVar 3)) eNil)) (eC (.int 65536)))) (cSet 3 (e2 gDiv (bP (pVar 3)) (eC (.int 65536))))) cNx)) (cSeq (cSet 5 (e2 gMod (eCl gInt (eCons (e2 gAdd (e2 gMul (bP (pVar 3)) (eC (.int 48271))) (e2 gMul (e2 gAdd (bP (pVar 2)) (eC (.int 1))) (eC (.int 69621)))) eNil)) (eC (.int 2147483647)))) (cSeq (cSet 5 (e2 gMod (eCl gInt (eCons (e2 gAdd (e2 gAdd (e2 gMul (bP (pVar 5)) (eC (.int 16807))) (e2 gMul (eC (.int 11)) (bP (pVar 2)))) (eC (.int 5))) eNil)) (eC (.int 2147483629)))) (cSeq (cApp 1 [] (e2 gMod (eCl gInt (eCons (bP (pVar 5)) eNil)) (eC (.int 65536)))) (cApp 1 [] (e2 gMod (eCl gInt (eCons (e2 gDiv (bP (pVar 5)) (eC (.int 65536))) eNil)) (eC (.int 32768)))))))))) (cRetF (pVar 1))))
def cMix : Cm W := (cSeq (cSet 3 (eC (.int 0))) (cSeq (cIf (tst (e2 gGt (eCl gLen (eCons (bP (pVar 0)) eNil)) (eC (.int 0)))) (cSet 3 (eP (pIx (pVar 0) (e2 gMod (eCl gInt (eCons (bP (pVar 1)) eNil)) (eCl gLen (eCons (bP (pVar 0)) eNil)))))) cNx) (cSeq (cIf (tst (e2 gLt (bP (pVar 1)) (eCl gLen (eCons (bP (pVar 0)) eNil)))) (cRet (e2 gMod (eCl gInt (eCons (bP (pVar 3)) eNil)) (bP (pVar 2)))) cNx) (cRet (e2 gMod (eCl gInt (eCons (e2 gDiv (eCl gInt (eCons (e2 gAdd (e2 gMul (bP (pVar 3)) (eC (.int 7919))) (e2 gMul (bP (pVar 1)) (eC (.int 104729)))) eNil)) (eC (.int 3))) eNil)) (bP (pVar 2)))))))
/-- numbers as given -/
def Dr (ds : List Int) : Prop := ds.length ≤ 3780 ∧ ∀ d ∈ ds, 0 ≤ d ∧ d < 65536
theorem log_le {i : Int} {n : Nat} (h : i.natAbs < 2 ^ n) (hn : 0 < n) : i.natAbs.log2 ≤ n - 1 := by
  by_cases h0 : i.natAbs = 0
  · rw [h0]; simp
  · have := (Nat.log2_lt h0).mpr h
    omega
theorem mul_ok {i j : Int} (h : i.natAbs < 2 ^ 200) (h2 : j.natAbs < 2 ^ 200) : gMul (.int i) (.int j) = some (.int (i * j)) := by
  apply s_mul
  have a := log_le h (by decide)
  have b := log_le h2 (by decide)
  omega
theorem atI_ints {ds : List Int} {k : Nat} (h : k < ds.length) : atI (ds.map Val.int) (k : Int) = some (.int ds[k]) := by
  have e : ixN (ds.map Val.int).length (k : Int) = some k := by
    unfold ixN
    rw [if_pos (by omega), List.length_map, if_pos (by omega)]
    rfl
  unfold atI
  rw [e]
  show (ds.map Val.int)[k]? = _
  rw [List.getElem?_map, List.getElem?_eq_getElem h]
  rfl
theorem mix_run {ds : List Int} (hd : Dr ds) {k m : Int} (hk : 0 ≤ k) (hk2 : k < 10 ^ 9) (hm : 0 < m) : ∃ r : Int, 0 ≤ r ∧ r < m ∧ cDef0 4 cMix [.lst (ds.map .int), .int k, .int m] u = (.ok (.sh (.int r)) u : R W.S OT) := by
  obtain ⟨cell, hc0, hc1, hc⟩ : ∃ cell : Int, 0 ≤ cell ∧ cell < 65536 ∧ ((cSet 3 (eC (.int 0)) : Cm W) [some (.sh (.lst (ds.map .int))), some (.sh (.int k)), some (.sh (.int m)), none] u).then (cIf (tst (e2 gGt (eCl gLen (eCons (bP (pVar 0)) eNil)) (eC (.int 0)))) (cSet 3 (eP (pIx (pVar 0) (e2 gMod (eCl gInt (eCons (bP (pVar 1)) eNil)) (eCl gLen (eCons (bP (pVar 0)) eNil)))))) cNx) = .nx [some (.sh (.lst (ds.map .int))), some (.sh (.int k)), some (.sh (.int m)), some (.sh (.int cell))] u := by
    by_cases h : 0 < ds.length
    · have hz : (0 : Int) < (ds.length : Int) := by omega
      have e1 := s_mod (i := k) (j := ((ds.map Val.int).length : Int)) (by rw [List.length_map]; exact hz)
      have h3 : 0 ≤ k % (ds.length : Int) := Int.emod_nonneg _ (by omega)
      have h4 : k % (ds.length : Int) < ds.length := Int.emod_lt_of_pos _ hz
      obtain ⟨i, hi⟩ := Int.eq_ofNat_of_zero_le h3
      have h5 : i < ds.length := by omega
      have e2 := atI_ints h5
      refine ⟨ds[i], (hd.2 _ (List.getElem_mem h5)).1, (hd.2 _ (List.getElem_mem h5)).2, ?_⟩
      rw [List.length_map, hi] at e1
      have e3 : ixO (.sh (.lst (ds.map .int))) (.int (i : Int)) = some (.sh (.int ds[i])) := by show (atI (ds.map .int) (i : Int)).map OT.sh = _; rw [e2]; rfl
      simp [h, e1, e3]
    · have h : ds = [] := by cases ds with
        | nil => rfl
        | cons _ _ => simp at h
      subst h
      exact ⟨0, by omega, by omega, by simp⟩
  rw [show cDef0 4 cMix [.lst (ds.map .int), .int k, .int m] u = ((((cSet 3 (eC (.int 0)) : Cm W) [some (.sh (.lst (ds.map .int))), some (.sh (.int k)), some (.sh (.int m)), none] u).then (cSeq (cIf (tst (e2 gGt (eCl gLen (eCons (bP (pVar 0)) eNil)) (eC (.int 0)))) (cSet 3 (eP (pIx (pVar 0) (e2 gMod (eCl gInt (eCons (bP (pVar 1)) eNil)) (eCl gLen (eCons (bP (pVar 0)) eNil)))))) cNx) (cSeq (cIf (tst (e2 gLt (bP (pVar 1)) (eCl gLen (eCons (bP (pVar 0)) eNil)))) (cRet (e2 gMod (eCl gInt (eCons (bP (pVar 3)) eNil)) (bP (pVar 2)))) cNx) (cRet (e2 gMod (eCl gInt (eCons (e2 gDiv (eCl gInt (eCons (e2 gAdd (e2 gMul (bP (pVar 3)) (eC (.int 7919))) (e2 gMul (bP (pVar 1)) (eC (.int 104729)))) eNil)) (eC (.int 3))) eNil)) (bP (pVar 2))))))).fin.calm : R W.S OT) from rfl]
  have hc' : ∀ c : Cm W, ((cSet 3 (eC (.int 0)) : Cm W) [some (.sh (.lst (ds.map .int))), some (.sh (.int k)), some (.sh (.int m)), none] u).then (cSeq (cIf (tst (e2 gGt (eCl gLen (eCons (bP (pVar 0)) eNil)) (eC (.int 0)))) (cSet 3 (eP (pIx (pVar 0) (e2 gMod (eCl gInt (eCons (bP (pVar 1)) eNil)) (eCl gLen (eCons (bP (pVar 0)) eNil)))))) cNx) c) = c [some (.sh (.lst (ds.map .int))), some (.sh (.int k)), some (.sh (.int m)), some (.sh (.int cell))] u := by
    intro c
    simp only [s_set, s_eC, s_go, s_nx, s_seq] at hc ⊢
    rw [hc]
    rfl
  rw [hc']
  have m1 := mul_ok (i := cell) (j := 7919) (by omega) (by decide)
  have m2 := mul_ok (i := k) (j := 104729) (by omega) (by decide)
  have m3 := s_mod (i := cell) (j := m) hm
  have m4 := s_div (i := cell * 7919 + k * 104729) (j := 3) (by omega) (by decide)
  have m5 := s_mod (i := (cell * 7919 + k * 104729) / 3) (j := m) hm
  by_cases hl : k < (ds.length : Int)
  · exact ⟨cell % m, Int.emod_nonneg _ (by omega), Int.emod_lt_of_pos _ hm, by simp [hl, m3]⟩
  · exact ⟨(cell * 7919 + k * 104729) / 3 % m, Int.emod_nonneg _ (by omega), Int.emod_lt_of_pos _ hm, by simp [hl, m1, m2, m4, m5]⟩
theorem fin_calm {S : Type} (t : OT) (s : S) : (Out.rt t s).fin.calm = .ok t s := rfl
theorem big_turns {a0 : Option OT} {x2 x5 : Option OT} {c : Int} : ∀ (xs : List Val) (ds : List Int) (r : Int) (x4 : Option OT), 0 ≤ r → (∀ d ∈ ds, 0 ≤ d ∧ d < 65536) → ds.length + xs.length ≤ 3780 →
    ∃ (ds' : List Int) (r' : Int) (y4 : Option OT), (∀ d ∈ ds', 0 ≤ d ∧ d < 65536) ∧ ds'.length ≤ ds.length + xs.length ∧
      forS (puN 4) (cIf (tst (e2 gGt (bP (pVar 3)) (eC (.int 0)))) (cSeq (cApp 1 [] (e2 gMod (eCl gInt (eCons (bP (pVar 3)) eNil)) (eC (.int 65536)))) (cSet 3 (e2 gDiv (bP (pVar 3)) (eC (.int 65536))))) cNx) xs [a0, some (.oL (ds.map .int)), x2, some (.sh (.int r)), x4, x5] u =
        (.nx [a0, some (.oL (ds'.map .int)), x2, some (.sh (.int r')), y4, x5] u : Out W.S) := by
  intro xs
  induction xs with
  | nil => intro ds r x4 _ hd hz; exact ⟨ds, r, x4, hd, by simp, rfl⟩
  | cons x xs ih =>
    intro ds r x4 hr hd hz
    rw [List.length_cons] at hz
    have e1 := s_mod (i := r) (j := 65536) (by decide)
    have e2 := s_div (i := r) (j := 65536) (by decide) (by decide)
    have hl : ds.length < sizeLine := by rw [sizeLine_eq]; omega
    by_cases h : 0 < r
    · obtain ⟨ds', r', y4, h1, h2, h3⟩ := ih (ds ++ [r % 65536]) (r / 65536) (some (.sh x)) (Int.ediv_nonneg hr (by decide)) (fun d hm => by
        rcases List.mem_append.mp hm with z | z
        · exact hd d z
        · rw [List.mem_singleton] at z
          subst z
          exact ⟨Int.emod_nonneg _ (by decide), Int.emod_lt_of_pos _ (by decide)⟩) (by simp; omega)
      refine ⟨ds', r', y4, h1, by simp at h2 ⊢; omega, ?_⟩
      rw [← h3]
      simp [forS, h, e1, e2, hl]
    · obtain ⟨ds', r', y4, h1, h2, h3⟩ := ih ds r (some (.sh x)) hr hd (by omega)
      refine ⟨ds', r', y4, h1, by simp at h2 ⊢; omega, ?_⟩
      rw [← h3]
      simp [forS, h]
theorem draws_run (ns : List Int) : ∃ ds : List Int, Dr ds ∧ cDef0 6 cDraws [.wlst (ns.map .int)] u = (.ok (.oL (ds.map .int)) u : R W.S OT) := by
  obtain ⟨ρ2, s2, row, rfl, ds, x2, x3, x4, x5, hd, hl, rfl⟩ := forS_inv (W := W) (p := puN 2) (b := (cSeq (cSet 3 (eCl gAbs (eCons (bP (pIx (pVar 0) (eP (pVar 2)))) eNil))) (cIf (tst (e2 gGe (bP (pVar 3)) (e2 gPow (eC (.int 10)) (eC (.int 18))))) (cFor (iR1 (eC (.int 60))) (puN 4) (cIf (tst (e2 gGt (bP (pVar 3)) (eC (.int 0)))) (cSeq (cApp 1 [] (e2 gMod (eCl gInt (eCons (bP (pVar 3)) eNil)) (eC (.int 65536)))) (cSet 3 (e2 gDiv (bP (pVar 3)) (eC (.int 65536))))) cNx)) (cSeq (cSet 5 (e2 gMod (eCl gInt (eCons (e2 gAdd (e2 gMul (bP (pVar 3)) (eC (.int 48271))) (e2 gMul (e2 gAdd (bP (pVar 2)) (eC (.int 1))) (eC (.int 69621)))) eNil)) (eC (.int 2147483647)))) (cSeq (cSet 5 (e2 gMod (eCl gInt (eCons (e2 gAdd (e2 gAdd (e2 gMul (bP (pVar 5)) (eC (.int 16807))) (e2 gMul (eC (.int 11)) (bP (pVar 2)))) (eC (.int 5))) eNil)) (eC (.int 2147483629)))) (cSeq (cApp 1 [] (e2 gMod (eCl gInt (eCons (bP (pVar 5)) eNil)) (eC (.int 65536)))) (cApp 1 [] (e2 gMod (eCl gInt (eCons (e2 gDiv (bP (pVar 5)) (eC (.int 65536))) eNil)) (eC (.int 32768))))))))))
    (fun i ρ s => u = s ∧ ∃ (ds : List Int) (x2 x3 x4 x5 : Option OT), (∀ d ∈ ds, 0 ≤ d ∧ d < 65536) ∧ ds.length ≤ 60 * i ∧ ρ = [some (.sh (.wlst (ns.map .int))), some (.oL (ds.map .int)), x2, x3, x4, x5])
    (xs := rngI 0 (min 63 ns.length)) (n := 0) (ρ := [some (.sh (.wlst (ns.map .int))), some (.oL []), none, none, none, none]) (s := u) ⟨rfl, [], _, _, _, _, by simp, by simp, rfl⟩ (by
      rintro i x ρ s hx ⟨rfl, ds, x2, x3, x4, x5, hd, hl, rfl⟩
      rw [Nat.zero_add] at hl ⊢
      unfold rngI at hx
      rw [List.getElem?_map] at hx
      have hi : i < min 63 ns.length := by
        by_cases h : i < min 63 ns.length
        · exact h
        · rw [List.getElem?_eq_none (by rw [List.length_range]; omega)] at hx
          cases hx
      rw [List.getElem?_range hi] at hx
      have hx : x = .int (i : Int) := by
        have := (Option.some.inj hx).symm
        rw [this]; simp
      subst hx
      have hi2 : i < ns.length := by omega
      have e1 : ixO (.sh (.wlst (ns.map .int))) (.int (i : Int)) = some (.sh (.int ns[i])) := by show (atI (ns.map .int) (i : Int)).map OT.sh = _; rw [atI_ints hi2]; rfl
      generalize hr : (if ns[i] < 0 then -ns[i] else ns[i]) = r at *
      have hr0 : 0 ≤ r := by rw [← hr]; split <;> omega
      have e2 : gPow (.int 10) (.int 18) = some (.int (10 ^ 18)) := rfl
      have lz : ds.length + 1 < sizeLine := by rw [sizeLine_eq]; omega
      by_cases hb : 10 ^ 18 ≤ r
      · obtain ⟨ds', r', y4, h1, h2, h3⟩ := big_turns (W := W) (u := u) (a0 := some (.sh (.wlst (ns.map .int)))) (x2 := some (.sh (.int (i : Int)))) (x5 := x5) (c := 0) (rngI 0 60) ds r x4 hr0 hd (by unfold rngI; simp; omega)
        refine ⟨_, rfl, [some (.sh (.wlst (ns.map .int))), some (.oL (ds'.map .int)), some (.sh (.int (i : Int))), some (.sh (.int r')), y4, x5], u, .inl ?_, rfl, ds', _, _, _, _, h1, ?_, rfl⟩
        · have e3 : small62 60 = true := by decide
          have hb2 : (1000000000000000000 : Int) ≤ r := hb
          simp [e1, hr, e2, hb2, iR1, e3]
          exact h3
        · have : (rngI 0 60).length = 60 := by unfold rngI; simp
          omega
      · have hb2 : ¬ (1000000000000000000 : Int) ≤ r := hb
        have m1 := mul_ok (i := r) (j := 48271) (by omega) (by decide)
        have m2 := mul_ok (i := (i : Int) + 1) (j := 69621) (by omega) (by decide)
        have m3 := s_mod (i := r * 48271 + ((i : Int) + 1) * 69621) (j := 2147483647) (by decide)
        have b3 : 0 ≤ (r * 48271 + ((i : Int) + 1) * 69621) % 2147483647 ∧ (r * 48271 + ((i : Int) + 1) * 69621) % 2147483647 < 2147483647 := ⟨Int.emod_nonneg _ (by decide), Int.emod_lt_of_pos _ (by decide)⟩
        generalize (r * 48271 + ((i : Int) + 1) * 69621) % 2147483647 = t at m3 b3
        have m4 := mul_ok (i := t) (j := 16807) (by omega) (by decide)
        have m5 := mul_ok (i := 11) (j := (i : Int)) (by decide) (by omega)
        have m6 := s_mod (i := t * 16807 + 11 * (i : Int) + 5) (j := 2147483629) (by decide)
        generalize (t * 16807 + 11 * (i : Int) + 5) % 2147483629 = q at m6
        have m7 := s_mod (i := q) (j := 65536) (by decide)
        have m8 := s_div (i := q) (j := 65536) (by decide) (by decide)
        have m9 := s_mod (i := q / 65536) (j := 32768) (by decide)
        have lz0 : ds.length < sizeLine := by omega
        refine ⟨_, rfl, [some (.sh (.wlst (ns.map .int))), some (.oL ((ds ++ [q % 65536, q / 65536 % 32768]).map .int)), some (.sh (.int (i : Int))), some (.sh (.int r)), x4, some (.sh (.int q))], u, .inl ?_, rfl, _, _, _, _, _, ?_, ?_, rfl⟩
        · simp [e1, hr, e2, hb2, m1, m2, m3, m4, m5, m6, m7, m8, m9, lz, lz0]
        · intro d hm
          rcases List.mem_append.mp hm with z | z
          · exact hd d z
          · rcases List.mem_cons.mp z with rfl | z
            · exact ⟨Int.emod_nonneg _ (by decide), Int.emod_lt_of_pos _ (by decide)⟩
            · rw [List.mem_singleton] at z
              subst z
              exact ⟨Int.emod_nonneg _ (by decide), Int.lt_trans (Int.emod_lt_of_pos _ (by decide)) (by decide)⟩
        · simp; omega)
  have lr : (rngI 0 (min 63 ns.length)).length = min 63 ns.length := by unfold rngI; simp
  refine ⟨ds, ⟨by omega, hd⟩, ?_⟩
  have e4 : small62 (if (ns.length : Int) < 63 then (ns.length : Int) else 63) = true := by
    unfold small62
    split <;> simp <;> omega
  have e5 : (if (ns.length : Int) < 63 then (ns.length : Int) else 63).toNat = min 63 ns.length := by split <;> omega
  have e6 : (0 : Nat) ≤ sizeLine := Nat.zero_le _
  rw [← e5] at row
  unfold cDef0 cDef cDraws
  simp [enter, iR1, e4, row, small]
end
end VL

/-! VL24: more equations; dicts of pairs by keys of a kind. -/
namespace VL
open PySem PySem.Spec PyProof.Rows L2
section
variable {W : Wo} {S α β : Type} {ρ ρ' : En} {s s1 : W.S} {σ : S}
@[simp] theorem s_flock (i : Nat) (f : Sm W OT) : fLock i f ρ s = match ρ[i]? with
  | some (some (.oD b kvs)) => match f (ρ.set i (some (.oR b kvs))) s with
    | .ok t s' => .ok t s'
    | _ => .bad
  | _ => .bad := rfl
@[simp] theorem s_clock (i : Nat) (c : Cm W) : cLock i c ρ s = match ρ[i]? with
  | some (some (.oD b kvs)) => match c (ρ.set i (some (.oR b kvs))) s with
    | .nx ρ' s' => .nx (ρ'.set i (some (.oD b kvs))) s'
    | .bk ρ' s' => .bk (ρ'.set i (some (.oD b kvs))) s'
    | .ct ρ' s' => .ct (ρ'.set i (some (.oD b kvs))) s'
    | .rt (.sh v) s' => .rt (.sh v) s'
    | _ => .bad
  | _ => .bad := rfl
@[simp] theorem s_fNil : (fNil : Sm W (List OT)) ρ s = .ok [] s := rfl
@[simp] theorem s_fCons (f : Sm W OT) (r : Sm W (List OT)) : fCons f r ρ s = (f ρ s).bind fun v s1 => (r ρ s1).bind fun vs s2 => .ok (v :: vs) s2 := rfl
@[simp] theorem s_ftup (fs : Sm W (List OT)) : fTup fs ρ s = (fs ρ s).bind fun ts s1 => small ts.length (.oT ts) s1 := rfl
@[simp] theorem s_ir1 (f : Ev W) : iR1 f ρ s = (f ρ s).bind fun v s1 => match v with
  | .int j => if small62 j = true then .ok (rngI 0 j.toNat) s1 else .bad
  | _ => .bad := rfl
@[simp] theorem s_valT (ts : List OT) : (OT.oT ts).val = .tup (OT.vals ts) := rfl
@[simp] theorem s_vals0 : OT.vals [] = [] := rfl
@[simp] theorem s_vals1 (t : OT) (ts : List OT) : OT.vals (t :: ts) = t.val :: OT.vals ts := rfl
theorem s_dgS (b : Bool) (m : List (Val × Val)) (v : Val) : dgO (.sh (.dic b m)) v = dget b m v := rfl
theorem s_dgD (b : Bool) (m : List (Val × Val)) (v : Val) : dgO (.oD b m) v = dget b m v := rfl
theorem s_dgR (b : Bool) (m : List (Val × Val)) (v : Val) : dgO (.oR b m) v = dget b m v := rfl
@[simp] theorem s_puT (p : Pus) (vs : List Val) : puT p (.tup vs) ρ = p vs ρ := rfl
@[simp] theorem s_puNil : puNil [] ρ = some ρ := rfl
@[simp] theorem s_puCons (p : Pu) (q : Pus) (v : Val) (r : List Val) : puCons p q (v :: r) ρ = (p v ρ).bind fun ρ1 => q r ρ1 := rfl
@[simp] theorem s_disp0 : (dispS [] : Sm W (List (Val × Val))) ρ s = .ok [] s := rfl
@[simp] theorem s_disp1 (k v : Ev W) (r : List (Ev W × Ev W)) : dispS ((k, v) :: r) ρ s = (k ρ s).bind fun x s1 => (v ρ s1).bind fun y s2 => (dispS r ρ s2).bind fun ps s3 => .ok ((x, y) :: ps) s3 := rfl
@[simp] theorem s_fdisp (b : Bool) (prs : List (Ev W × Ev W)) : fDisp b prs ρ s = (dispS prs ρ s).bind fun ps s1 => match putAllV b ps [] with
  | some kvs => .ok (.oD b kvs) s1
  | none => .bad := rfl
end
theorem pairs_puts {κ : Type} [DecidableEq κ] (E : Enc κ) : ∀ (L : List (κ × Val)) (acc : List (Val × Val)), pairsV E.b (L.map fun e => .tup [E.e e.1, e.2]) acc = some (putsV acc (E.d L))
  | [], acc => rfl
  | e :: L, acc => by
    show (match dkey (E.e e.1) with
      | some d => if DK.isT d = E.b then pairsV E.b (L.map fun e => .tup [E.e e.1, e.2]) (vput acc (E.e e.1) d e.2) else none
      | none => none) = some (putsV acc ((E.e e.1, e.2) :: E.d L))
    rw [E.key]
    show (if DK.isT (E.c e.1) = E.b then _ else none) = _
    rw [if_pos (E.isT _), pairs_puts E L]
    unfold putsV
    rw [List.foldl_cons, E.key]
theorem puts0 {κ : Type} [DecidableEq κ] (E : Enc κ) {A : List (κ × Val)} (h : (A.map (·.1)).Nodup) : putsV [] (E.d A) = E.d A := by
  have := E.puts A [] (by simpa using h)
  simpa [Enc.d] using this
theorem pairs_of {κ : Type} [DecidableEq κ] (E : Enc κ) {L : List (κ × Val)} (h : (L.map (·.1)).Nodup) : gPairs E.b (.sh (.lst (L.map fun e => .tup [E.e e.1, e.2]))) = some (.oD E.b (E.d L)) := by
  show (pairsV E.b (L.map fun e => .tup [E.e e.1, e.2]) []).map _ = _
  rw [pairs_puts, puts0 E h]
  rfl
/-- a store into an own dict, at the top or within an own tuple -/
theorem putD_at {κ : Type} [DecidableEq κ] (E : Enc κ) {ρ : En} {i : Nat} {π : List Nat} {t : OT} {A : List (κ × Val)} {k : κ} {v : Val} (e : ownAt ρ i π = some (t, .oD E.b (E.d A))) (hz : A.length ≤ 5000) : putD ρ i π (E.e k) v = some (ρ.set i (some (OT.up π t (.oD E.b (E.d (putL A k v)))))) := by
  have hl : (E.d A).length < sizeLine := by unfold Enc.d; rw [List.length_map, sizeLine_eq]; omega
  unfold putD
  rw [e]
  show (match dkey (E.e k) with
    | some d => if DK.isT d = E.b ∧ (E.d A).length < sizeLine then some (ρ.set i (some (OT.up π t (.oD E.b (vput (E.d A) (E.e k) d v))))) else none
    | none => none) = _
  rw [E.key]
  show (if DK.isT (E.c k) = E.b ∧ (E.d A).length < sizeLine then _ else none) = _
  rw [if_pos ⟨E.isT _, hl⟩, E.put]
theorem putL_last {κ : Type} [DecidableEq κ] {α : Type} {A : List (κ × α)} {k : κ} {v w : α} (h : k ∉ A.map (·.1)) : putL (A ++ [(k, v)]) k w = A ++ [(k, w)] := by
  unfold putL
  have h1 : ((A ++ [(k, v)]).any fun p => decide (p.1 = k)) = true := by
    rw [List.any_append]; simp
  rw [if_pos h1, List.map_append]
  congr 1
  · have : ∀ p ∈ A, (if p.1 = k then (p.1, w) else p) = p := fun p hp => by
      rw [if_neg fun e => h (List.mem_map.mpr ⟨p, hp, e⟩)]
    rw [List.map_congr_left this, List.map_id']
  · simp
theorem atI_map {α : Type} {L : List α} {f : α → Val} {k : Nat} (h : k < L.length) : atI (L.map f) (k : Int) = some (f L[k]) := by
  have e : ixN (L.map f).length (k : Int) = some k := by
    unfold ixN
    rw [if_pos (by omega), List.length_map, if_pos (by omega)]
    rfl
  unfold atI
  rw [e]
  show (L.map f)[k]? = _
  rw [List.getElem?_map, List.getElem?_eq_getElem h]
  rfl
theorem ix_map {α : Type} {L : List α} {f : α → Val} {r : Int} (h0 : 0 ≤ r) (h : r < L.length) : ∃ x ∈ L, ixO (.sh (.lst (L.map f))) (.int r) = some (.sh (f x)) := by
  obtain ⟨k, rfl⟩ := Int.eq_ofNat_of_zero_le h0
  have hk : k < L.length := by omega
  refine ⟨L[k], List.getElem_mem hk, ?_⟩
  show (atI (L.map f) (k : Int)).map OT.sh = _
  rw [atI_map hk]
  rfl
theorem int_iff (i j : Int) : PyData.eqv (.int i) (.int j) = decide (i = j) := by
  simp only [PyData.eqv]
  rw [Bool.eq_iff_iff]
  simp
theorem gEq_int (i j : Int) : gEq (.int i) (.int j) = some (.bl (decide (i = j))) := by
  have h : (dfree (.int i) && dfree (.int j)) = true := by unfold dfree; rfl
  unfold gEq
  rw [show vok (.int i) (.int j) = true by unfold vok; rw [h]; rfl, show dep64 (.int i) = true from rfl, veq_df h]
  show some (Val.bl (PyData.eqv (.int i) (.int j))) = _
  rw [int_iff]
theorem gInD_of {κ : Type} [DecidableEq κ] (E : Enc κ) (k : κ) (A : List (κ × Val)) : gInD false (E.e k) (.dic E.b (E.d A)) = some (.bl (decide (k ∈ A.map (·.1)))) := by
  show (VL.dget E.b (E.d A) (E.e k)).map _ = _
  rw [E.dget]
  show some (Val.bl ((getL A k).isSome != false)) = _
  congr 2
  cases h : getL A k with
  | none =>
    rw [decide_eq_false (getL_none.mp h)]; rfl
  | some v =>
    rw [decide_eq_true (List.mem_map.mpr ⟨(k, v), getL_some h, rfl⟩)]; rfl
end VL

namespace K04
open PySem PySem.Spec PyProof.Rows L2 VL
def top (i : Nat) : Stmt := PySem.Challenge.pw_keysreach_k04_whole_forests_of_keys.main.body.getD i (.Pass ⟨0, 0, 0, 0⟩)
structure Txt (mg : Str → Option Value) : Prop where
  abs : mg "abs" = none
  dict : mg "dict" = none
  int : mg "int" = none
  len : mg "len" = none
  list : mg "list" = none
  min : mg "min" = none
  range : mg "range" = none
  repr : mg "repr" = none
  sorted : mg "sorted" = none
section
variable {P : Program} {w : World} {K : PySem.W.Frag} {mg : Str → Option Value} {base : Heap}
/-! children_of -/
abbrev s_children_of : Stmt := top 1
theorem sc_children_of : FnScope ["parents", "slot", "there"] ["parents", "slot"] (defScope s_children_of) := ⟨rfl, rfl, rfl, by decide +kernel, rfl, by decide +kernel, by decide +kernel⟩
def c_children_of : Cm W0 := (cRetF (fLc [2] (iOf OT.listI (pE (eF (fCl gSortD (pVar 0))))) (puN 2) (tst (e2 gEq (eDg (pVar 0) (eP (pVar 2))) (bP (pVar 1)))) (eP (pVar 2))))
def F_children_of : Fv W0 := cDef0 3 c_children_of
theorem d_children_of (TB : Txt mg)  (f : Addr) (cdv : Value) (A : Around) (outer : List Env) (s : Shared) (H : Hp) (EX : XK) (hr : Room 0 (A.deeper (envOfC "children_of" (defScope s_children_of) s.heap.objs.size f cdv))) :
    VSs W0 (cxV P w K mg base ["parents", "slot", "there"] "children_of" (defScope s_children_of) f cdv A outer s H EX) eN [0, 1] (defBody s_children_of) c_children_of := by
  have hu1 := hu_of hr
  have S := sc_children_of
  exact (vss_one (vs_retF (vf_lc (by rfl) S.nd (blkOk_by (N := ["parents", "slot", "there"]) (sc := defScope s_children_of) (own := [("there", 2)]) (by decide +kernel)) (by rfl) (vi_list (vpu_e (ve_f (vf_sortD (by rfl) hr.units (by rfl) TB.sorted (vp_var 0))))) (fun _ _ _ _ _ => (vg_name (by decide) S.nd)) (fun _ _ _ _ _ => (vts_one (vt_cmp (vc_eq hr.units (vb_of (ve_dg hu1 (vp_var 0) (ve_p (vp_var 2)))) (vb_p (vp_var 1)))))) (fun _ _ _ _ _ => (ve_p (vp_var 2))))))
theorem cal_children_of (TB : Txt mg)  {f : Addr} {fd : FuncData} (F : Fun K "children_of" "children_of" s_children_of f fd) (b : Binds K fd ["parents", "slot"] []) (m : mg "children_of" = some (.ref f)) : Cal P w K mg base "children_of" 1 2 F_children_of :=
  ⟨f, fd, ["parents", "slot"], VL.Fun.okV F sc_children_of (by decide) fun cdv A outer s H EX hr => d_children_of TB  f cdv A outer s H EX hr, m, F.kp, b⟩
/-! came_of -/
abbrev s_came_of : Stmt := top 2
theorem sc_came_of : FnScope ["parents", "slot", "found", "waiting", "here", "more"] ["parents", "slot"] (defScope s_came_of) := ⟨rfl, rfl, rfl, by decide +kernel, rfl, by decide +kernel, by decide +kernel⟩
def c_came_of : Cm W0 := (cSeq (cSetF 2 (fLst eNil)) (cSeq (cSetF 3 (fLst (eCons (eP (pVar 1)) eNil))) (cSeq (cWhile (fun _ => 1000) (tst (e2 gGt (eCl gLen (eCons (bP (pVar 3)) eNil)) (eC (.int 0)))) (cSeq (cPop 4 3 []) (cSeq (cSet 5 (eF (fCall 2 F_children_of (eCons (eP (pVar 0)) (eCons (eP (pVar 4)) eNil))))) (cSeq (cExt 2 [] (eP (pVar 5))) (cExt 3 [] (eP (pVar 5))))))) (cRetF (fCl gSortL (pVar 2))))))
def F_came_of : Fv W0 := cDef0 6 c_came_of
theorem d_came_of (TB : Txt mg) (C_children_of : Cal P w K mg base "children_of" 1 2 F_children_of) (f : Addr) (cdv : Value) (A : Around) (outer : List Env) (s : Shared) (H : Hp) (EX : XK) (hr : Room 1 (A.deeper (envOfC "came_of" (defScope s_came_of) s.heap.objs.size f cdv))) :
    VSs W0 (cxV P w K mg base ["parents", "slot", "found", "waiting", "here", "more"] "came_of" (defScope s_came_of) f cdv A outer s H EX) eN [0, 1, 2, 3, 4, 5] (defBody s_came_of) c_came_of := by
  have hu1 := hu_of hr
  have S := sc_came_of
  exact (vss_cons (vs_setF (by decide) S.nd (vf_lst va_nil)) (vss_cons (vs_setF (by decide) S.nd (vf_lst (va_cons (ve_p (vp_var 1)) va_nil))) (vss_cons (vs_while PassesOwn.never (vt_cmp (vc_gt (vb_of (ve_len (by rfl) TB.len (vb_p (vp_var 3)))) (vb_of ve_int))) (vss_cons (vs_pop (by decide) (by decide) S.nd (vo_var 3)) (vss_cons (vs_set (by decide) S.nd (ve_f (vf_cal C_children_of (hr.mono (by decide)) (by rfl) (va_cons (ve_p (vp_var 0)) (va_cons (ve_p (vp_var 4)) va_nil))))) (vss_cons (vs_ext (by decide) (vo_var 2) (ve_p (vp_var 5))) (vss_one (vs_ext (by decide) (vo_var 3) (ve_p (vp_var 5)))))))) (vss_one (vs_retF (vf_sortL hr.units (by rfl) TB.sorted (vp_var 2)))))))
theorem cal_came_of (TB : Txt mg) (C_children_of : Cal P w K mg base "children_of" 1 2 F_children_of) {f : Addr} {fd : FuncData} (F : Fun K "came_of" "came_of" s_came_of f fd) (b : Binds K fd ["parents", "slot"] []) (m : mg "came_of" = some (.ref f)) : Cal P w K mg base "came_of" 2 2 F_came_of :=
  ⟨f, fd, ["parents", "slot"], VL.Fun.okV F sc_came_of (by decide) fun cdv A outer s H EX hr => d_came_of TB C_children_of f cdv A outer s H EX hr, m, F.kp, b⟩
/-! ancestors_of -/
abbrev s_ancestors_of : Stmt := top 3
theorem sc_ancestors_of : FnScope ["parents", "slot", "found", "here"] ["parents", "slot"] (defScope s_ancestors_of) := ⟨rfl, rfl, rfl, by decide +kernel, rfl, by decide +kernel, by decide +kernel⟩
def c_ancestors_of : Cm W0 := (cSeq (cSetF 2 (fLst eNil)) (cSeq (cSet 3 (eDg (pVar 0) (eP (pVar 1)))) (cSeq (cWhile (fun _ => 1000) (tst (e2 (gIsN true) (bP (pVar 3)) (eC .non))) (cSeq (cApp 2 [] (eP (pVar 3))) (cSet 3 (eDg (pVar 0) (eP (pVar 3)))))) (cRetF (pVar 2)))))
def F_ancestors_of : Fv W0 := cDef0 4 c_ancestors_of
theorem d_ancestors_of (TB : Txt mg)  (f : Addr) (cdv : Value) (A : Around) (outer : List Env) (s : Shared) (H : Hp) (EX : XK) (hr : Room 0 (A.deeper (envOfC "ancestors_of" (defScope s_ancestors_of) s.heap.objs.size f cdv))) :
    VSs W0 (cxV P w K mg base ["parents", "slot", "found", "here"] "ancestors_of" (defScope s_ancestors_of) f cdv A outer s H EX) eN [0, 1, 2, 3] (defBody s_ancestors_of) c_ancestors_of := by
  have hu1 := hu_of hr
  have S := sc_ancestors_of
  exact (vss_cons (vs_setF (by decide) S.nd (vf_lst va_nil)) (vss_cons (vs_set (by decide) S.nd (ve_dg hu1 (vp_var 0) (ve_p (vp_var 1)))) (vss_cons (vs_while PassesOwn.never (vt_cmp (vc_notN (vb_p (vp_var 3)))) (vss_cons (vs_app (by decide) (vo_var 2) (ve_p (vp_var 3))) (vss_one (vs_set (by decide) S.nd (ve_dg hu1 (vp_var 0) (ve_p (vp_var 3))))))) (vss_one (vs_retP (vp_var 2))))))
theorem cal_ancestors_of (TB : Txt mg)  {f : Addr} {fd : FuncData} (F : Fun K "ancestors_of" "ancestors_of" s_ancestors_of f fd) (b : Binds K fd ["parents", "slot"] []) (m : mg "ancestors_of" = some (.ref f)) : Cal P w K mg base "ancestors_of" 1 2 F_ancestors_of :=
  ⟨f, fd, ["parents", "slot"], VL.Fun.okV F sc_ancestors_of (by decide) fun cdv A outer s H EX hr => d_ancestors_of TB  f cdv A outer s H EX hr, m, F.kp, b⟩
/-! without_slot -/
abbrev s_without_slot : Stmt := top 4
theorem sc_without_slot : FnScope ["keys", "parents", "slot", "above", "now", "there"] ["keys", "parents", "slot"] (defScope s_without_slot) := ⟨rfl, rfl, rfl, by decide +kernel, rfl, by decide +kernel, by decide +kernel⟩
def c_without_slot : Cm W0 := (cSeq (cSet 3 (eDg (pVar 1) (eP (pVar 2)))) (cSeq (cThenF 4 (cSetF 4 (fDc true [5] (iOf OT.keysI (pE (eP (pVar 1)))) (puN 5) (tst (e2 gNe (bP (pVar 5)) (bP (pVar 2)))) (eP (pVar 5)) (eIf (tst (e2 gEq (eDg (pVar 1) (eP (pVar 5))) (bP (pVar 2)))) (eP (pVar 3)) (eDg (pVar 1) (eP (pVar 5))))))) (cRet (eTup (eCons (eF (fDc true [5] (iOf OT.keysI (pE (eP (pVar 0)))) (puN 5) (tst (e2 gNe (bP (pVar 5)) (bP (pVar 2)))) (eP (pVar 5)) (eDg (pVar 0) (eP (pVar 5))))) (eCons (eP (pVar 4)) eNil))))))
def F_without_slot : Fv W0 := cDef0 6 c_without_slot
theorem d_without_slot (TB : Txt mg)  (f : Addr) (cdv : Value) (A : Around) (outer : List Env) (s : Shared) (H : Hp) (EX : XK) (hr : Room 0 (A.deeper (envOfC "without_slot" (defScope s_without_slot) s.heap.objs.size f cdv))) :
    VSs W0 (cxV P w K mg base ["keys", "parents", "slot", "above", "now", "there"] "without_slot" (defScope s_without_slot) f cdv A outer s H EX) eN [0, 1, 2, 3, 4] (defBody s_without_slot) c_without_slot := by
  have hu1 := hu_of hr
  have S := sc_without_slot
  exact (vss_cons (vs_set (by decide) S.nd (ve_dg hu1 (vp_var 1) (ve_p (vp_var 2)))) (vss_cons (vs_thenF 4 (by decide) (vs_setDc true (by decide) hr.units0 (by rfl) S.nd (blkOk_by (N := ["keys", "parents", "slot", "above", "now", "there"]) (sc := defScope s_without_slot) (own := [("there", 5)]) (by decide +kernel)) (by rfl) (vi_keys (vpu_e (ve_p (vp_var 1)))) (fun _ _ _ _ _ => (vg_name (by decide) S.nd)) (fun _ _ _ _ _ => (vts_one (vt_cmp (vc_ne hr.units (vb_p (vp_var 5)) (vb_p (vp_var 2)))))) (fun _ _ _ _ _ => (ve_p (vp_var 5))) (fun _ _ _ _ _ => (ve_if (vt_cmp (vc_eq hr.units (vb_of (ve_dg hu1 (vp_var 1) (ve_p (vp_var 5)))) (vb_p (vp_var 2)))) (ve_p (vp_var 3)) (ve_dg hu1 (vp_var 1) (ve_p (vp_var 5))))) (by rfl) (by rfl) (by decide +kernel))) (vss_one (vs_ret (ve_tup (va_cons (ve_f (vf_dc true hr.units0 (by rfl) S.nd (blkOk_by (N := ["keys", "parents", "slot", "above", "now", "there"]) (sc := defScope s_without_slot) (own := [("there", 5)]) (by decide +kernel)) (by rfl) (vi_keys (vpu_e (ve_p (vp_var 0)))) (fun _ _ _ _ _ => (vg_name (by decide) S.nd)) (fun _ _ _ _ _ => (vts_one (vt_cmp (vc_ne hr.units (vb_p (vp_var 5)) (vb_p (vp_var 2)))))) (fun _ _ _ _ _ => (ve_p (vp_var 5))) (fun _ _ _ _ _ => (ve_dg hu1 (vp_var 0) (ve_p (vp_var 5)))))) (va_cons (ve_p (vp_var 4)) va_nil)))))))
theorem cal_without_slot (TB : Txt mg)  {f : Addr} {fd : FuncData} (F : Fun K "without_slot" "without_slot" s_without_slot f fd) (b : Binds K fd ["keys", "parents", "slot"] []) (m : mg "without_slot" = some (.ref f)) : Cal P w K mg base "without_slot" 1 3 F_without_slot :=
  ⟨f, fd, ["keys", "parents", "slot"], VL.Fun.okV F sc_without_slot (by decide) fun cdv A outer s H EX hr => d_without_slot TB  f cdv A outer s H EX hr, m, F.kp, b⟩
/-! with_key -/
abbrev s_with_key : Stmt := top 5
theorem sc_with_key : FnScope ["keys", "parents", "slot", "key", "parent", "more", "now"] ["keys", "parents", "slot", "key", "parent"] (defScope s_with_key) := ⟨rfl, rfl, rfl, by decide +kernel, rfl, by decide +kernel, by decide +kernel⟩
def c_with_key : Cm W0 := (cSeq (cSetF 5 (fCl gCopy (pVar 0))) (cSeq (cSetF 6 (fCl gCopy (pVar 1))) (cSeq (cPut 5 [] (eP (pVar 2)) (eP (pVar 3))) (cSeq (cPut 6 [] (eP (pVar 2)) (eP (pVar 4))) (cFrz 6 (cFrz 5 (cRet (eTup (eCons (eP (pVar 5)) (eCons (eP (pVar 6)) eNil))))))))))
def F_with_key : Fv W0 := cDef0 7 c_with_key
theorem d_with_key (TB : Txt mg)  (f : Addr) (cdv : Value) (A : Around) (outer : List Env) (s : Shared) (H : Hp) (EX : XK) (hr : Room 0 (A.deeper (envOfC "with_key" (defScope s_with_key) s.heap.objs.size f cdv))) :
    VSs W0 (cxV P w K mg base ["keys", "parents", "slot", "key", "parent", "more", "now"] "with_key" (defScope s_with_key) f cdv A outer s H EX) eN [0, 1, 2, 3, 4, 5, 6] (defBody s_with_key) c_with_key := by
  have hu1 := hu_of hr
  have S := sc_with_key
  exact (vss_cons (vs_setF (by decide) S.nd (vf_copy hr.units (by rfl) TB.dict (vp_var 0))) (vss_cons (vs_setF (by decide) S.nd (vf_copy hr.units (by rfl) TB.dict (vp_var 1))) (vss_cons (vs_put hu1 (by decide) (vo_var 5) (ve_p (vp_var 2)) (ve_p (vp_var 3))) (vss_cons (vs_put hu1 (by decide) (vo_var 6) (ve_p (vp_var 2)) (ve_p (vp_var 4))) (vss_one (vs_frz 6 (by decide) (vs_frz 5 (by decide) (vs_ret (ve_tup (va_cons (ve_p (vp_var 5)) (va_cons (ve_p (vp_var 6)) va_nil)))))))))))
theorem cal_with_key (TB : Txt mg)  {f : Addr} {fd : FuncData} (F : Fun K "with_key" "with_key" s_with_key f fd) (b : Binds K fd ["keys", "parents", "slot", "key", "parent"] []) (m : mg "with_key" = some (.ref f)) : Cal P w K mg base "with_key" 1 5 F_with_key :=
  ⟨f, fd, ["keys", "parents", "slot", "key", "parent"], VL.Fun.okV F sc_with_key (by decide) fun cdv A outer s H EX hr => d_with_key TB  f cdv A outer s H EX hr, m, F.kp, b⟩
/-! moved -/
abbrev s_moved : Stmt := top 6
theorem sc_moved : FnScope ["keys", "parents", "slot", "there", "more", "now", "one"] ["keys", "parents", "slot", "there"] (defScope s_moved) := ⟨rfl, rfl, rfl, by decide +kernel, rfl, by decide +kernel, by decide +kernel⟩
def c_moved : Cm W0 := (cSeq (cSetF 4 (fDc true [6] (iOf OT.keysI (pE (eP (pVar 0)))) (puN 6) (tst (e2 gNe (bP (pVar 6)) (bP (pVar 2)))) (eP (pVar 6)) (eDg (pVar 0) (eP (pVar 6))))) (cSeq (cPut 4 [] (eP (pVar 3)) (eDg (pVar 0) (eP (pVar 2)))) (cSeq (cSetF 5 (fD0 true)) (cSeq (cFor (iOf OT.keysI (pE (eP (pVar 1)))) (puN 6) (cPut 5 [] (eIf (tst (e2 gEq (bP (pVar 6)) (bP (pVar 2)))) (eP (pVar 3)) (eP (pVar 6))) (eIf (tst (e2 gEq (eDg (pVar 1) (eP (pVar 6))) (bP (pVar 2)))) (eP (pVar 3)) (eDg (pVar 1) (eP (pVar 6)))))) (cFrz 5 (cFrz 4 (cRet (eTup (eCons (eP (pVar 4)) (eCons (eP (pVar 5)) eNil))))))))))
def F_moved : Fv W0 := cDef0 7 c_moved
theorem d_moved (TB : Txt mg)  (f : Addr) (cdv : Value) (A : Around) (outer : List Env) (s : Shared) (H : Hp) (EX : XK) (hr : Room 0 (A.deeper (envOfC "moved" (defScope s_moved) s.heap.objs.size f cdv))) :
    VSs W0 (cxV P w K mg base ["keys", "parents", "slot", "there", "more", "now", "one"] "moved" (defScope s_moved) f cdv A outer s H EX) eN [0, 1, 2, 3, 4, 5, 6] (defBody s_moved) c_moved := by
  have hu1 := hu_of hr
  have S := sc_moved
  exact (vss_cons (vs_setDc true (by decide) hr.units0 (by rfl) S.nd (blkOk_by (N := ["keys", "parents", "slot", "there", "more", "now", "one"]) (sc := defScope s_moved) (own := [("one", 6)]) (by decide +kernel)) (by rfl) (vi_keys (vpu_e (ve_p (vp_var 0)))) (fun _ _ _ _ _ => (vg_name (by decide) S.nd)) (fun _ _ _ _ _ => (vts_one (vt_cmp (vc_ne hr.units (vb_p (vp_var 6)) (vb_p (vp_var 2)))))) (fun _ _ _ _ _ => (ve_p (vp_var 6))) (fun _ _ _ _ _ => (ve_dg hu1 (vp_var 0) (ve_p (vp_var 6)))) (by rfl) (by rfl) (by decide +kernel)) (vss_cons (vs_put hu1 (by decide) (vo_var 4) (ve_p (vp_var 3)) (ve_dg hu1 (vp_var 0) (ve_p (vp_var 2)))) (vss_cons (vs_setF (by decide) S.nd vf_dT0) (vss_cons (vs_for PassesOwn.never (by rfl) (vi_keys (vpu_e (ve_p (vp_var 1)))) (vg_name (by decide) S.nd) (vss_one (vs_put hu1 (by decide) (vo_var 5) (ve_if (vt_cmp (vc_eq hr.units (vb_p (vp_var 6)) (vb_p (vp_var 2)))) (ve_p (vp_var 3)) (ve_p (vp_var 6))) (ve_if (vt_cmp (vc_eq hr.units (vb_of (ve_dg hu1 (vp_var 1) (ve_p (vp_var 6)))) (vb_p (vp_var 2)))) (ve_p (vp_var 3)) (ve_dg hu1 (vp_var 1) (ve_p (vp_var 6)))))) (by decide)) (vss_one (vs_frz 5 (by decide) (vs_frz 4 (by decide) (vs_ret (ve_tup (va_cons (ve_p (vp_var 4)) (va_cons (ve_p (vp_var 5)) va_nil)))))))))))
theorem cal_moved (TB : Txt mg)  {f : Addr} {fd : FuncData} (F : Fun K "moved" "moved" s_moved f fd) (b : Binds K fd ["keys", "parents", "slot", "there"] []) (m : mg "moved" = some (.ref f)) : Cal P w K mg base "moved" 1 4 F_moved :=
  ⟨f, fd, ["keys", "parents", "slot", "there"], VL.Fun.okV F sc_moved (by decide) fun cdv A outer s H EX hr => d_moved TB  f cdv A outer s H EX hr, m, F.kp, b⟩
/-! _law_draws -/
abbrev s__law_draws : Stmt := top 8
theorem sc__law_draws : FnScope ["script", "draws", "k", "rest", "turn", "stirred"] ["script"] (defScope s__law_draws) := ⟨rfl, rfl, rfl, by decide +kernel, rfl, by decide +kernel, by decide +kernel⟩
def c__law_draws : Cm W0 := (cSeq (cSetF 1 (fLst eNil)) (cSeq (cFor (iR1 (eCl gMin (eCons (eC (.int 63)) (eCons (eCl gLen (eCons (bP (pVar 0)) eNil)) eNil)))) (puN 2) (cSeq (cSet 3 (eCl gAbs (eCons (bP (pIx (pVar 0) (eP (pVar 2)))) eNil))) (cIf (tst (e2 gGe (bP (pVar 3)) (e2 gPow (eC (.int 10)) (eC (.int 18))))) (cFor (iR1 (eC (.int 60))) (puN 4) (cIf (tst (e2 gGt (bP (pVar 3)) (eC (.int 0)))) (cSeq (cApp 1 [] (e2 gMod (eCl gInt (eCons (bP (pVar 3)) eNil)) (eC (.int 65536)))) (cSet 3 (e2 gDiv (bP (pVar 3)) (eC (.int 65536))))) cNx)) (cSeq (cSet 5 (e2 gMod (eCl gInt (eCons (e2 gAdd (e2 gMul (bP (pVar 3)) (eC (.int 48271))) (e2 gMul (e2 gAdd (bP (pVar 2)) (eC (.int 1))) (eC (.int 69621)))) eNil)) (eC (.int 2147483647)))) (cSeq (cSet 5 (e2 gMod (eCl gInt (eCons (e2 gAdd (e2 gAdd (e2 gMul (bP (pVar 5)) (eC (.int 16807))) (e2 gMul (eC (.int 11)) (bP (pVar 2)))) (eC (.int 5))) eNil)) (eC (.int 2147483629)))) (cSeq (cApp 1 [] (e2 gMod (eCl gInt (eCons (bP (pVar 5)) eNil)) (eC (.int 65536)))) (cApp 1 [] (e2 gMod (eCl gInt (eCons (e2 gDiv (bP (pVar 5)) (eC (.int 65536))) eNil)) (eC (.int 32768)))))))))) (cRetF (pVar 1))))
def F__law_draws : Fv W0 := cDef0 6 c__law_draws
theorem d__law_draws (TB : Txt mg)  (f : Addr) (cdv : Value) (A : Around) (outer : List Env) (s : Shared) (H : Hp) (EX : XK) (hr : Room 0 (A.deeper (envOfC "_law_draws" (defScope s__law_draws) s.heap.objs.size f cdv))) :
    VSs W0 (cxV P w K mg base ["script", "draws", "k", "rest", "turn", "stirred"] "_law_draws" (defScope s__law_draws) f cdv A outer s H EX) eN [0, 1, 2, 3, 4, 5] (defBody s__law_draws) c__law_draws := by
  have hu1 := hu_of hr
  have S := sc__law_draws
  exact (vss_cons (vs_setF (by decide) S.nd (vf_lst va_nil)) (vss_cons (vs_for PassesOwn.never (by rfl) (vi_r1 (U := []) (by rfl) TB.range (ve_min (by rfl) (by rfl) TB.min (vb_of ve_int) (vb_of (ve_len (by rfl) TB.len (vb_p (vp_var 0)))))) (vg_name (by decide) S.nd) (vss_cons (vs_set (by decide) S.nd (ve_abs (by rfl) TB.abs (vb_p (vp_ix (vp_var 0) (ve_p (vp_var 2)))))) (vss_one (vs_if (vt_cmp (vc_ge (vb_p (vp_var 3)) (vb_of (ve_pow (vb_of ve_int) (vb_of ve_int))))) (vss_one (vs_for PassesOwn.never (by rfl) (vi_r1 (U := []) (by rfl) TB.range ve_int) (vg_name (by decide) S.nd) (vss_one (vs_if (vt_cmp (vc_gt (vb_p (vp_var 3)) (vb_of ve_int))) (vss_cons (vs_app (by decide) (vo_var 1) (ve_mod (vb_of (ve_intc (by rfl) TB.int (vb_p (vp_var 3)))) (vb_of ve_int))) (vss_one (vs_set (by decide) S.nd (ve_div (vb_p (vp_var 3)) (vb_of ve_int))))) vss_nil)) (by decide))) (vss_cons (vs_set (by decide) S.nd (ve_mod (vb_of (ve_intc (by rfl) TB.int (vb_of (ve_add (vb_of (ve_mul (vb_p (vp_var 3)) (vb_of ve_int))) (vb_of (ve_mul (vb_of (ve_add (vb_p (vp_var 2)) (vb_of ve_int))) (vb_of ve_int))))))) (vb_of ve_int))) (vss_cons (vs_set (by decide) S.nd (ve_mod (vb_of (ve_intc (by rfl) TB.int (vb_of (ve_add (vb_of (ve_add (vb_of (ve_mul (vb_p (vp_var 5)) (vb_of ve_int))) (vb_of (ve_mul (vb_of ve_int) (vb_p (vp_var 2)))))) (vb_of ve_int))))) (vb_of ve_int))) (vss_cons (vs_app (by decide) (vo_var 1) (ve_mod (vb_of (ve_intc (by rfl) TB.int (vb_p (vp_var 5)))) (vb_of ve_int))) (vss_one (vs_app (by decide) (vo_var 1) (ve_mod (vb_of (ve_intc (by rfl) TB.int (vb_of (ve_div (vb_p (vp_var 5)) (vb_of ve_int))))) (vb_of ve_int)))))))))) (by decide)) (vss_one (vs_retP (vp_var 1)))))
theorem cal__law_draws (TB : Txt mg)  {f : Addr} {fd : FuncData} (F : Fun K "_law_draws" "_law_draws" s__law_draws f fd) (b : Binds K fd ["script"] []) (m : mg "_law_draws" = some (.ref f)) : Cal P w K mg base "_law_draws" 1 1 F__law_draws :=
  ⟨f, fd, ["script"], VL.Fun.okV F sc__law_draws (by decide) fun cdv A outer s H EX hr => d__law_draws TB  f cdv A outer s H EX hr, m, F.kp, b⟩
/-! _law_mix -/
abbrev s__law_mix : Stmt := top 9
theorem sc__law_mix : FnScope ["draws", "k", "many", "cell"] ["draws", "k", "many"] (defScope s__law_mix) := ⟨rfl, rfl, rfl, by decide +kernel, rfl, by decide +kernel, by decide +kernel⟩
def c__law_mix : Cm W0 := (cSeq (cSet 3 (eC (.int 0))) (cSeq (cIf (tst (e2 gGt (eCl gLen (eCons (bP (pVar 0)) eNil)) (eC (.int 0)))) (cSet 3 (eP (pIx (pVar 0) (e2 gMod (eCl gInt (eCons (bP (pVar 1)) eNil)) (eCl gLen (eCons (bP (pVar 0)) eNil)))))) cNx) (cSeq (cIf (tst (e2 gLt (bP (pVar 1)) (eCl gLen (eCons (bP (pVar 0)) eNil)))) (cRet (e2 gMod (eCl gInt (eCons (bP (pVar 3)) eNil)) (bP (pVar 2)))) cNx) (cRet (e2 gMod (eCl gInt (eCons (e2 gDiv (eCl gInt (eCons (e2 gAdd (e2 gMul (bP (pVar 3)) (eC (.int 7919))) (e2 gMul (bP (pVar 1)) (eC (.int 104729)))) eNil)) (eC (.int 3))) eNil)) (bP (pVar 2)))))))
def F__law_mix : Fv W0 := cDef0 4 c__law_mix
theorem d__law_mix (TB : Txt mg)  (f : Addr) (cdv : Value) (A : Around) (outer : List Env) (s : Shared) (H : Hp) (EX : XK) (hr : Room 0 (A.deeper (envOfC "_law_mix" (defScope s__law_mix) s.heap.objs.size f cdv))) :
    VSs W0 (cxV P w K mg base ["draws", "k", "many", "cell"] "_law_mix" (defScope s__law_mix) f cdv A outer s H EX) eN [0, 1, 2, 3] (defBody s__law_mix) c__law_mix := by
  have hu1 := hu_of hr
  have S := sc__law_mix
  exact (vss_cons (vs_set (by decide) S.nd ve_int) (vss_cons (vs_if (vt_cmp (vc_gt (vb_of (ve_len (by rfl) TB.len (vb_p (vp_var 0)))) (vb_of ve_int))) (vss_one (vs_set (by decide) S.nd (ve_p (vp_ix (vp_var 0) (ve_mod (vb_of (ve_intc (by rfl) TB.int (vb_p (vp_var 1)))) (vb_of (ve_len (by rfl) TB.len (vb_p (vp_var 0))))))))) vss_nil) (vss_cons (vs_if (vt_cmp (vc_lt (vb_p (vp_var 1)) (vb_of (ve_len (by rfl) TB.len (vb_p (vp_var 0)))))) (vss_one (vs_ret (ve_mod (vb_of (ve_intc (by rfl) TB.int (vb_p (vp_var 3)))) (vb_p (vp_var 2))))) vss_nil) (vss_one (vs_ret (ve_mod (vb_of (ve_intc (by rfl) TB.int (vb_of (ve_div (vb_of (ve_intc (by rfl) TB.int (vb_of (ve_add (vb_of (ve_mul (vb_p (vp_var 3)) (vb_of ve_int))) (vb_of (ve_mul (vb_p (vp_var 1)) (vb_of ve_int))))))) (vb_of ve_int))))) (vb_p (vp_var 2))))))))
theorem cal__law_mix (TB : Txt mg)  {f : Addr} {fd : FuncData} (F : Fun K "_law_mix" "_law_mix" s__law_mix f fd) (b : Binds K fd ["draws", "k", "many"] []) (m : mg "_law_mix" = some (.ref f)) : Cal P w K mg base "_law_mix" 1 3 F__law_mix :=
  ⟨f, fd, ["draws", "k", "many"], VL.Fun.okV F sc__law_mix (by decide) fun cdv A outer s H EX hr => d__law_mix TB  f cdv A outer s H EX hr, m, F.kp, b⟩
/-! _law_up -/
abbrev s__law_up : Stmt := top 10
theorem sc__law_up : FnScope ["parents", "slot", "found", "here"] ["parents", "slot"] (defScope s__law_up) := ⟨rfl, rfl, rfl, by decide +kernel, rfl, by decide +kernel, by decide +kernel⟩
def c__law_up : Cm W0 := (cSeq (cSetF 2 (fLst eNil)) (cSeq (cSet 3 (eDg (pVar 0) (eP (pVar 1)))) (cSeq (cWhile (fun _ => 1000) (tst (e2 (gIsN true) (bP (pVar 3)) (eC .non))) (cSeq (cApp 2 [] (eP (pVar 3))) (cSet 3 (eDg (pVar 0) (eP (pVar 3)))))) (cRetF (pVar 2)))))
def F__law_up : Fv W0 := cDef0 4 c__law_up
theorem d__law_up (TB : Txt mg)  (f : Addr) (cdv : Value) (A : Around) (outer : List Env) (s : Shared) (H : Hp) (EX : XK) (hr : Room 0 (A.deeper (envOfC "_law_up" (defScope s__law_up) s.heap.objs.size f cdv))) :
    VSs W0 (cxV P w K mg base ["parents", "slot", "found", "here"] "_law_up" (defScope s__law_up) f cdv A outer s H EX) eN [0, 1, 2, 3] (defBody s__law_up) c__law_up := by
  have hu1 := hu_of hr
  have S := sc__law_up
  exact (vss_cons (vs_setF (by decide) S.nd (vf_lst va_nil)) (vss_cons (vs_set (by decide) S.nd (ve_dg hu1 (vp_var 0) (ve_p (vp_var 1)))) (vss_cons (vs_while PassesOwn.never (vt_cmp (vc_notN (vb_p (vp_var 3)))) (vss_cons (vs_app (by decide) (vo_var 2) (ve_p (vp_var 3))) (vss_one (vs_set (by decide) S.nd (ve_dg hu1 (vp_var 0) (ve_p (vp_var 3))))))) (vss_one (vs_retP (vp_var 2))))))
theorem cal__law_up (TB : Txt mg)  {f : Addr} {fd : FuncData} (F : Fun K "_law_up" "_law_up" s__law_up f fd) (b : Binds K fd ["parents", "slot"] []) (m : mg "_law_up" = some (.ref f)) : Cal P w K mg base "_law_up" 1 2 F__law_up :=
  ⟨f, fd, ["parents", "slot"], VL.Fun.okV F sc__law_up (by decide) fun cdv A outer s H EX hr => d__law_up TB  f cdv A outer s H EX hr, m, F.kp, b⟩
/-! _law_right -/
abbrev s__law_right : Stmt := top 11
theorem sc__law_right : FnScope ["keys", "parents", "slot", "below", "one"] ["keys", "parents"] (defScope s__law_right) := ⟨rfl, rfl, rfl, by decide +kernel, rfl, by decide +kernel, by decide +kernel⟩
def c__law_right : Cm W0 := (cSeq (cFor (iOf OT.keysI (pE (eP (pVar 1)))) (puN 2) (cSeq (cSet 3 (eF (fCl gSortL (pE (eF (fLc [4] (iOf OT.keysI (pE (eP (pVar 1)))) (puN 4) (tst (e2 (gIn false) (bP (pVar 2)) (eF (fCall 2 F__law_up (eCons (eP (pVar 1)) (eCons (eP (pVar 4)) eNil)))))) (eP (pVar 4)))))))) (cSeq (cIf (tOrS (tst (e2 gNe (eF (fCall 2 F_came_of (eCons (eP (pVar 1)) (eCons (eP (pVar 2)) eNil)))) (bP (pVar 3)))) (tst (e2 gNe (eF (fCall 2 F_ancestors_of (eCons (eP (pVar 1)) (eCons (eP (pVar 2)) eNil)))) (eF (fCall 2 F__law_up (eCons (eP (pVar 1)) (eCons (eP (pVar 2)) eNil))))))) (cRet (eC (.bl false))) cNx) (cIf (tst (e2 gNe (eF (fCall 2 F_children_of (eCons (eP (pVar 1)) (eCons (eP (pVar 2)) eNil)))) (eF (fCl gSortL (pE (eF (fLc [4] (iOf OT.keysI (pE (eP (pVar 1)))) (puN 4) (tst (e2 gEq (eDg (pVar 1) (eP (pVar 4))) (bP (pVar 2)))) (eP (pVar 4))))))))) (cRet (eC (.bl false))) cNx)))) (cRet (e2 gEq (eF (fCl gSortD (pVar 0))) (eF (fCl gSortD (pVar 1))))))
def F__law_right : Fv W0 := cDef0 5 c__law_right
theorem d__law_right (TB : Txt mg) (C__law_up : Cal P w K mg base "_law_up" 1 2 F__law_up) (C_came_of : Cal P w K mg base "came_of" 2 2 F_came_of) (C_ancestors_of : Cal P w K mg base "ancestors_of" 1 2 F_ancestors_of) (C_children_of : Cal P w K mg base "children_of" 1 2 F_children_of) (f : Addr) (cdv : Value) (A : Around) (outer : List Env) (s : Shared) (H : Hp) (EX : XK) (hr : Room 2 (A.deeper (envOfC "_law_right" (defScope s__law_right) s.heap.objs.size f cdv))) :
    VSs W0 (cxV P w K mg base ["keys", "parents", "slot", "below", "one"] "_law_right" (defScope s__law_right) f cdv A outer s H EX) eN [0, 1, 2, 3] (defBody s__law_right) c__law_right := by
  have hu1 := hu_of hr
  have S := sc__law_right
  exact (vss_cons (vs_for PassesOwn.never (by rfl) (vi_keys (vpu_e (ve_p (vp_var 1)))) (vg_name (by decide) S.nd) (vss_cons (vs_set (by decide) S.nd (ve_f (vf_sortL hr.units (by rfl) TB.sorted (vp_f (vf_lc (by rfl) S.nd (blkOk_by (N := ["keys", "parents", "slot", "below", "one"]) (sc := defScope s__law_right) (own := [("one", 4)]) (by decide +kernel)) (by rfl) (vi_keys (vpu_e (ve_p (vp_var 1)))) (fun _ _ _ _ _ => (vg_name (by decide) S.nd)) (fun _ _ _ _ _ => (vts_one (vt_cmp (vc_in hr.units (vb_p (vp_var 2)) (vb_of (ve_f (vf_cal C__law_up (hr.mono (by decide)) (by rfl) (va_cons (ve_p (vp_var 1)) (va_cons (ve_p (vp_var 4)) va_nil))))))))) (fun _ _ _ _ _ => (ve_p (vp_var 4)))))))) (vss_cons (vs_if (vt_w (vw_or (vt_cmp (vc_ne hr.units (vb_of (ve_f (vf_cal C_came_of (hr.mono (by decide)) (by rfl) (va_cons (ve_p (vp_var 1)) (va_cons (ve_p (vp_var 2)) va_nil))))) (vb_p (vp_var 3)))) (vw_or1 (vt_cmp (vc_ne hr.units (vb_of (ve_f (vf_cal C_ancestors_of (hr.mono (by decide)) (by rfl) (va_cons (ve_p (vp_var 1)) (va_cons (ve_p (vp_var 2)) va_nil))))) (vb_of (ve_f (vf_cal C__law_up (hr.mono (by decide)) (by rfl) (va_cons (ve_p (vp_var 1)) (va_cons (ve_p (vp_var 2)) va_nil)))))))))) (vss_one (vs_ret ve_bl)) vss_nil) (vss_one (vs_if (vt_cmp (vc_ne hr.units (vb_of (ve_f (vf_cal C_children_of (hr.mono (by decide)) (by rfl) (va_cons (ve_p (vp_var 1)) (va_cons (ve_p (vp_var 2)) va_nil))))) (vb_of (ve_f (vf_sortL hr.units (by rfl) TB.sorted (vp_f (vf_lc (by rfl) S.nd (blkOk_by (N := ["keys", "parents", "slot", "below", "one"]) (sc := defScope s__law_right) (own := [("one", 4)]) (by decide +kernel)) (by rfl) (vi_keys (vpu_e (ve_p (vp_var 1)))) (fun _ _ _ _ _ => (vg_name (by decide) S.nd)) (fun _ _ _ _ _ => (vts_one (vt_cmp (vc_eq hr.units (vb_of (ve_dg hu1 (vp_var 1) (ve_p (vp_var 4)))) (vb_p (vp_var 2)))))) (fun _ _ _ _ _ => (ve_p (vp_var 4)))))))))) (vss_one (vs_ret ve_bl)) vss_nil)))) (by decide)) (vss_one (vs_ret (ve_cmp (vc_eq hr.units (vb_of (ve_f (vf_sortD (by rfl) hr.units (by rfl) TB.sorted (vp_var 0)))) (vb_of (ve_f (vf_sortD (by rfl) hr.units (by rfl) TB.sorted (vp_var 1)))))))))
theorem cal__law_right (TB : Txt mg) (C__law_up : Cal P w K mg base "_law_up" 1 2 F__law_up) (C_came_of : Cal P w K mg base "came_of" 2 2 F_came_of) (C_ancestors_of : Cal P w K mg base "ancestors_of" 1 2 F_ancestors_of) (C_children_of : Cal P w K mg base "children_of" 1 2 F_children_of) {f : Addr} {fd : FuncData} (F : Fun K "_law_right" "_law_right" s__law_right f fd) (b : Binds K fd ["keys", "parents"] []) (m : mg "_law_right" = some (.ref f)) : Cal P w K mg base "_law_right" 3 2 F__law_right :=
  ⟨f, fd, ["keys", "parents"], VL.Fun.okV F sc__law_right (by decide) fun cdv A outer s H EX hr => d__law_right TB C__law_up C_came_of C_ancestors_of C_children_of f cdv A outer s H EX hr, m, F.kp, b⟩
/-! law -/
abbrev s_law : Stmt := top 12
theorem sc_law : FnScope ["script", "draws", "keys", "parents", "names", "born", "turn", "k", "slots", "slot", "kind", "kept", "one", "parent", "now", "due", "above", "some", "place", "two"] ["script"] (defScope s_law) := ⟨rfl, rfl, rfl, by decide +kernel, rfl, by decide +kernel, by decide +kernel⟩
def c_law : Cm W0 := (cSeq (cSet 1 (eF (fCall 1 F__law_draws (eCons (eP (pVar 0)) eNil)))) (cSeq (cSet 2 (eF (fD0 true))) (cSeq (cSet 3 (eF (fD0 true))) (cSeq (cSetF 4 (fD0 false)) (cSeq (cSetF 5 (fD0 false)) (cSeq (cFor (iR1 (eF (fCall 3 F__law_mix (eCons (eP (pVar 1)) (eCons (eC (.int 0)) (eCons (eC (.int 23)) eNil)))))) (puN 6) (cSeq (cSet 7 (e2 gAdd (eC (.int 10)) (e2 gMul (eC (.int 5)) (bP (pVar 6))))) (cSeq (cSet 8 (eF (fCl gSortD (pVar 2)))) (cSeq (cSet 9 (eTup (eCons (eF (fCall 3 F__law_mix (eCons (eP (pVar 1)) (eCons (e2 gAdd (bP (pVar 7)) (eC (.int 1))) (eCons (eC (.int 3)) eNil))))) (eCons (eF (fCall 3 F__law_mix (eCons (eP (pVar 1)) (eCons (e2 gAdd (bP (pVar 7)) (eC (.int 2))) (eCons (eC (.int 6)) eNil))))) eNil)))) (cSeq (cSet 10 (eF (fCall 3 F__law_mix (eCons (eP (pVar 1)) (eCons (eP (pVar 7)) (eCons (eC (.int 5)) eNil)))))) (cSeq (cSet 11 (eCl gRepr (eCons (eTup (eCons (eP (pVar 2)) (eCons (eP (pVar 3)) eNil))) eNil))) (cSeq (cIf (tOrS (tst (e2 gEq (bP (pVar 8)) (eF (fLst eNil)))) (tst (e2 gLt (bP (pVar 10)) (eC (.int 3))))) (cSeq (cIf (tst (e2 (gInD false) (bP (pVar 9)) (bP (pVar 2)))) cCt cNx) (cSeq (cSet 13 (eP (pIx (pE (eF (fCat (pE (eF (fLst (eCons (eC .non) eNil)))) (pVar 8)))) (eF (fCall 3 F__law_mix (eCons (eP (pVar 1)) (eCons (e2 gAdd (bP (pVar 7)) (eC (.int 3))) (eCons (e2 gAdd (eCl gLen (eCons (bP (pVar 8)) eNil)) (eC (.int 1))) eNil)))))))) (cSeq (cSet 14 (eF (fCall 5 F_with_key (eCons (eP (pVar 2)) (eCons (eP (pVar 3)) (eCons (eP (pVar 9)) (eCons (eTup (eCons (eC (.str "page")) (eCons (eP (pVar 6)) (eCons (eC (.str "r")) (eCons (eC (.int 0)) eNil))))) (eCons (eP (pVar 13)) eNil)))))))) (cSeq (cSetF 15 (pE (eTup (eCons (eF (fCl (gPairs true) (pE (eF (fCat (pE (eF (fItems (pVar 2)))) (pE (eF (fLst (eCons (eTup (eCons (eP (pVar 9)) (eCons (eTup (eCons (eC (.str "page")) (eCons (eP (pVar 6)) (eCons (eC (.str "r")) (eCons (eC (.int 0)) eNil))))) eNil))) eNil))))))))) (eCons (eF (fCl (gPairs true) (pE (eF (fCat (pE (eF (fItems (pVar 3)))) (pE (eF (fLst (eCons (eTup (eCons (eP (pVar 9)) (eCons (eP (pVar 13)) eNil))) eNil))))))))) eNil))))) (cSeq (cPut 4 [] (eP (pVar 6)) (eP (pVar 9))) (cPut 5 [] (eP (pVar 6)) (eF (fLock 4 (fLc [12] (iOf OT.keysI (pVar 4)) (puN 12) (tAndS (tst (e2 (gIsN true) (bP (pVar 13)) (eC .non))) (tOrS (tst (e2 gEq (eDg (pVar 4) (eP (pVar 12))) (bP (pVar 13)))) (tst (e2 (gIn false) (eDg (pVar 4) (eP (pVar 12))) (eF (fCall 2 F__law_up (eCons (eP (pVar 3)) (eCons (eP (pVar 13)) eNil)))))))) (eP (pVar 12))))))))))) (cIf (tst (e2 gEq (bP (pVar 10)) (eC (.int 3)))) (cSeq (cSet 17 (eP (pIx (pVar 8) (eF (fCall 3 F__law_mix (eCons (eP (pVar 1)) (eCons (e2 gAdd (bP (pVar 7)) (eC (.int 3))) (eCons (eCl gLen (eCons (bP (pVar 8)) eNil)) eNil)))))))) (cSeq (cSet 14 (eF (fCall 3 F_without_slot (eCons (eP (pVar 2)) (eCons (eP (pVar 3)) (eCons (eP (pVar 17)) eNil)))))) (cSeq (cSetF 15 (fTup (fCons (fCl (gPairs true) (pE (eF (fLc [12] (iOf OT.keysI (pE (eP (pVar 2)))) (puN 12) (tst (e2 gNe (bP (pVar 12)) (bP (pVar 17)))) (eTup (eCons (eP (pVar 12)) (eCons (eDg (pVar 2) (eP (pVar 12))) eNil))))))) (fCons (fD0 true) fNil)))) (cSeq (cFor (iOf OT.keysI (pE (eP (pVar 3)))) (puN 12) (cIf (tst (e2 gNe (bP (pVar 12)) (bP (pVar 17)))) (cSeq (cPut 15 [1] (eP (pVar 12)) (eDg (pVar 3) (eP (pVar 12)))) (cIf (tst (e2 gEq (eDg (pVar 3) (eP (pVar 12))) (bP (pVar 17)))) (cPut 15 [1] (eP (pVar 12)) (eDg (pVar 3) (eP (pVar 17)))) cNx)) cNx)) (cSetF 4 (fCl (gPairs false) (pE (eF (fLock 4 (fLc [12] (iOf OT.keysI (pVar 4)) (puN 12) (tst (e2 gNe (eDg (pVar 4) (eP (pVar 12))) (bP (pVar 17)))) (eTup (eCons (eP (pVar 12)) (eCons (eDg (pVar 4) (eP (pVar 12))) eNil))))))))))))) (cSeq (cSet 17 (eP (pIx (pVar 8) (eF (fCall 3 F__law_mix (eCons (eP (pVar 1)) (eCons (e2 gAdd (bP (pVar 7)) (eC (.int 3))) (eCons (eCl gLen (eCons (bP (pVar 8)) eNil)) eNil)))))))) (cSeq (cIf (tst (e2 (gInD false) (bP (pVar 9)) (bP (pVar 2)))) cCt cNx) (cSeq (cSet 14 (eF (fCall 4 F_moved (eCons (eP (pVar 2)) (eCons (eP (pVar 3)) (eCons (eP (pVar 17)) (eCons (eP (pVar 9)) eNil))))))) (cSeq (cSetF 15 (fTup (fCons (fD0 true) (fCons (fD0 true) fNil)))) (cSeq (cFor (iOf OT.keysI (pE (eP (pVar 2)))) (puN 12) (cSeq (cSet 18 (eP (pIx (pE (eF (fLst (eCons (eP (pVar 12)) (eCons (eP (pVar 9)) eNil))))) (eCl gInt (eCons (e2 gEq (bP (pVar 12)) (bP (pVar 17))) eNil))))) (cSeq (cPut 15 [0] (eP (pVar 18)) (eDg (pVar 2) (eP (pVar 12)))) (cSeq (cPut 15 [1] (eP (pVar 18)) (eDg (pVar 3) (eP (pVar 12)))) (cIf (tst (e2 gEq (eDg (pVar 3) (eP (pVar 12))) (bP (pVar 17)))) (cPut 15 [1] (eP (pVar 18)) (eP (pVar 9))) cNx))))) (cSetF 4 (fCl (gPairs false) (pE (eF (fLock 4 (fLc [12] (iOf OT.keysI (pVar 4)) (puN 12) tTrue (eTup (eCons (eP (pVar 12)) (eCons (eP (pIx (pE (eF (fLst (eCons (eDg (pVar 4) (eP (pVar 12))) (eCons (eP (pVar 9)) eNil))))) (eCl gInt (eCons (e2 gEq (eDg (pVar 4) (eP (pVar 12))) (bP (pVar 17))) eNil)))) eNil)))))))))))))))) (cSeq (cIf (tOrS (tst (e2 gNe (bP (pVar 14)) (bP (pVar 15)))) (tOrS (tst (e2 gNe (eCl gRepr (eCons (eTup (eCons (eP (pVar 2)) (eCons (eP (pVar 3)) eNil))) eNil)) (bP (pVar 11)))) (tNotS (tst (eF (fCall 2 F__law_right (eCons (eP (pIx (pVar 14) (eC (.int 0)))) (eCons (eP (pIx (pVar 14) (eC (.int 1)))) eNil)))))))) (cRet (eC (.bl false))) cNx) (cSeq (cAsg (puT (puCons (puN 2) (puCons (puN 3) puNil))) (eP (pVar 14))) (cLock 4 (cFor (iOf OT.keysI (pVar 4)) (puN 12) (cSeq (cThenF 16 (cSetF 16 (fLc [19] (iOf OT.listI (pE (eDg (pVar 5) (eP (pVar 12))))) (puN 19) (tst (e2 (gInD false) (bP (pVar 19)) (bP (pVar 4)))) (eP (pVar 19))))) (cIf (tst (e2 gNe (eF (fCl gSortL (pE (eF (fLc [19] (iOf OT.listI (pE (eP (pVar 16)))) (puN 19) tTrue (eDg (pVar 4) (eP (pVar 19)))))))) (eF (fCl gSortL (pE (eF (fCall 2 F__law_up (eCons (eP (pVar 3)) (eCons (eDg (pVar 4) (eP (pVar 12))) eNil))))))))) (cRet (eC (.bl false))) cNx))))))))))))) (cRet (eAndV (e2 gEq (eF (fCall 2 F_came_of (eCons (eF (fDisp true [((eTup (eCons (eC (.int 0)) (eCons (eC (.int 0)) eNil))), (eC .non))])) (eCons (eTup (eCons (eC (.int 0)) (eCons (eC (.int 0)) eNil))) eNil)))) (eF (fLst eNil))) (e2 gEq (eF (fCall 3 F_without_slot (eCons (eF (fDisp true [((eTup (eCons (eC (.int 0)) (eCons (eC (.int 0)) eNil))), (eC (.int 1))), ((eTup (eCons (eC (.int 0)) (eCons (eC (.int 1)) eNil))), (eC (.int 2)))])) (eCons (eF (fDisp true [((eTup (eCons (eC (.int 0)) (eCons (eC (.int 0)) eNil))), (eC .non)), ((eTup (eCons (eC (.int 0)) (eCons (eC (.int 1)) eNil))), (eTup (eCons (eC (.int 0)) (eCons (eC (.int 0)) eNil))))])) (eCons (eTup (eCons (eC (.int 0)) (eCons (eC (.int 0)) eNil))) eNil))))) (eTup (eCons (eF (fDisp true [((eTup (eCons (eC (.int 0)) (eCons (eC (.int 1)) eNil))), (eC (.int 2)))])) (eCons (eF (fDisp true [((eTup (eCons (eC (.int 0)) (eCons (eC (.int 1)) eNil))), (eC .non))])) eNil))))))))))))
def F_law : Fv W0 := cDef0 20 c_law
theorem d_law (TB : Txt mg) (C__law_draws : Cal P w K mg base "_law_draws" 1 1 F__law_draws) (C__law_mix : Cal P w K mg base "_law_mix" 1 3 F__law_mix) (C_with_key : Cal P w K mg base "with_key" 1 5 F_with_key) (C__law_up : Cal P w K mg base "_law_up" 1 2 F__law_up) (C_without_slot : Cal P w K mg base "without_slot" 1 3 F_without_slot) (C_moved : Cal P w K mg base "moved" 1 4 F_moved) (C__law_right : Cal P w K mg base "_law_right" 3 2 F__law_right) (C_came_of : Cal P w K mg base "came_of" 2 2 F_came_of) (f : Addr) (cdv : Value) (s : Shared) (H : Hp) (EX : XK) (hr : Room 3 (callerA.deeper (envOfC "law" (defScope s_law) s.heap.objs.size f cdv))) :
    VSs W0 (cxV P w K mg base ["script", "draws", "keys", "parents", "names", "born", "turn", "k", "slots", "slot", "kind", "kept", "one", "parent", "now", "due", "above", "some", "place", "two"] "law" (defScope s_law) f cdv callerA [] s H EX) eN [0, 1, 2, 3, 4, 5, 6, 7, 8, 9, 10, 11, 12, 13, 14, 15, 16, 17, 18] (defBody s_law) c_law := by
  have hu1 := hu_of hr
  have S := sc_law
  exact (vss_cons (vs_set (by decide) S.nd (ve_f (vf_cal C__law_draws (hr.mono (by decide)) (by rfl) (va_cons (ve_p (vp_var 0)) va_nil)))) (vss_cons (vs_set (by decide) S.nd (ve_f vf_dT0)) (vss_cons (vs_set (by decide) S.nd (ve_f vf_dT0)) (vss_cons (vs_setF (by decide) S.nd vf_dK0) (vss_cons (vs_setF (by decide) S.nd vf_dK0) (vss_cons (vs_for PassesOwn.never (by rfl) (vi_r1 (U := []) (by rfl) TB.range (ve_f (vf_cal C__law_mix (hr.mono (by decide)) (by rfl) (va_cons (ve_p (vp_var 1)) (va_cons ve_int (va_cons ve_int va_nil)))))) (vg_name (by decide) S.nd) (vss_cons (vs_set (by decide) S.nd (ve_add (vb_of ve_int) (vb_of (ve_mul (vb_of ve_int) (vb_p (vp_var 6)))))) (vss_cons (vs_set (by decide) S.nd (ve_f (vf_sortD (by rfl) hr.units (by rfl) TB.sorted (vp_var 2)))) (vss_cons (vs_set (by decide) S.nd (ve_tup (va_cons (ve_f (vf_cal C__law_mix (hr.mono (by decide)) (by rfl) (va_cons (ve_p (vp_var 1)) (va_cons (ve_add (vb_p (vp_var 7)) (vb_of ve_int)) (va_cons ve_int va_nil))))) (va_cons (ve_f (vf_cal C__law_mix (hr.mono (by decide)) (by rfl) (va_cons (ve_p (vp_var 1)) (va_cons (ve_add (vb_p (vp_var 7)) (vb_of ve_int)) (va_cons ve_int va_nil))))) va_nil)))) (vss_cons (vs_set (by decide) S.nd (ve_f (vf_cal C__law_mix (hr.mono (by decide)) (by rfl) (va_cons (ve_p (vp_var 1)) (va_cons (ve_p (vp_var 7)) (va_cons ve_int va_nil)))))) (vss_cons (vs_set (by decide) S.nd (ve_repr (by rfl) hr.units (by rfl) TB.repr (vb_of (ve_tup (va_cons (ve_p (vp_var 2)) (va_cons (ve_p (vp_var 3)) va_nil)))))) (vss_cons (vs_if (vt_w (vw_or (vt_cmp (vc_eq hr.units (vb_p (vp_var 8)) (vb_of (ve_f (vf_lst va_nil))))) (vw_or1 (vt_cmp (vc_lt (vb_p (vp_var 10)) (vb_of ve_int)))))) (vss_cons (vs_if (vt_cmp (vc_inD hu1 (vb_p (vp_var 9)) (vb_p (vp_var 2)))) (vss_one vs_continue) vss_nil) (vss_cons (vs_set (by decide) S.nd (ve_p (vp_ix (vp_f (vf_cat (vp_f (vf_lst (va_cons ve_non va_nil))) (vp_var 8))) (ve_f (vf_cal C__law_mix (hr.mono (by decide)) (by rfl) (va_cons (ve_p (vp_var 1)) (va_cons (ve_add (vb_p (vp_var 7)) (vb_of ve_int)) (va_cons (ve_add (vb_of (ve_len (by rfl) TB.len (vb_p (vp_var 8)))) (vb_of ve_int)) va_nil)))))))) (vss_cons (vs_set (by decide) S.nd (ve_f (vf_cal C_with_key (hr.mono (by decide)) (by rfl) (va_cons (ve_p (vp_var 2)) (va_cons (ve_p (vp_var 3)) (va_cons (ve_p (vp_var 9)) (va_cons (ve_tup (va_cons ve_str (va_cons (ve_p (vp_var 6)) (va_cons ve_str (va_cons ve_int va_nil))))) (va_cons (ve_p (vp_var 13)) va_nil)))))))) (vss_cons (vs_setF (by decide) S.nd (vf_e (ve_tup (va_cons (ve_f (vf_pairs true (by rfl) hr.units (by rfl) TB.dict (vp_f (vf_cat (vp_f (vf_items (by rfl) (vp_var 2) (by rfl) TB.list)) (vp_f (vf_lst (va_cons (ve_tup (va_cons (ve_p (vp_var 9)) (va_cons (ve_tup (va_cons ve_str (va_cons (ve_p (vp_var 6)) (va_cons ve_str (va_cons ve_int va_nil))))) va_nil))) va_nil))))))) (va_cons (ve_f (vf_pairs true (by rfl) hr.units (by rfl) TB.dict (vp_f (vf_cat (vp_f (vf_items (by rfl) (vp_var 3) (by rfl) TB.list)) (vp_f (vf_lst (va_cons (ve_tup (va_cons (ve_p (vp_var 9)) (va_cons (ve_p (vp_var 13)) va_nil))) va_nil))))))) va_nil))))) (vss_cons (vs_put hu1 (by decide) (vo_var 4) (ve_p (vp_var 6)) (ve_p (vp_var 9))) (vss_one (vs_put hu1 (by decide) (vo_var 5) (ve_p (vp_var 6)) (ve_f (vf_lock 4 (vf_lc (by rfl) S.nd (blkOk_by (N := ["script", "draws", "keys", "parents", "names", "born", "turn", "k", "slots", "slot", "kind", "kept", "one", "parent", "now", "due", "above", "some", "place", "two"]) (sc := defScope s_law) (own := [("one", 12)]) (by decide +kernel)) (by rfl) (vi_keys (vpu_var 4)) (fun _ _ _ _ _ => (vg_name (by decide) S.nd)) (fun _ _ _ _ _ => (vts_one (vt_w (vw_and (vt_cmp (vc_notN (vb_p (vp_var 13)))) (vw_and1 (vt_w (vw_or (vt_cmp (vc_eq hr.units (vb_of (ve_dg hu1 (vp_var 4) (ve_p (vp_var 12)))) (vb_p (vp_var 13)))) (vw_or1 (vt_cmp (vc_in hr.units (vb_of (ve_dg hu1 (vp_var 4) (ve_p (vp_var 12)))) (vb_of (ve_f (vf_cal C__law_up (hr.mono (by decide)) (by rfl) (va_cons (ve_p (vp_var 3)) (va_cons (ve_p (vp_var 13)) va_nil))))))))))))))) (fun _ _ _ _ _ => (ve_p (vp_var 12))))))))))))) (vss_one (vs_if (vt_cmp (vc_eq hr.units (vb_p (vp_var 10)) (vb_of ve_int))) (vss_cons (vs_set (by decide) S.nd (ve_p (vp_ix (vp_var 8) (ve_f (vf_cal C__law_mix (hr.mono (by decide)) (by rfl) (va_cons (ve_p (vp_var 1)) (va_cons (ve_add (vb_p (vp_var 7)) (vb_of ve_int)) (va_cons (ve_len (by rfl) TB.len (vb_p (vp_var 8))) va_nil)))))))) (vss_cons (vs_set (by decide) S.nd (ve_f (vf_cal C_without_slot (hr.mono (by decide)) (by rfl) (va_cons (ve_p (vp_var 2)) (va_cons (ve_p (vp_var 3)) (va_cons (ve_p (vp_var 17)) va_nil)))))) (vss_cons (vs_setF (by decide) S.nd (vf_tup (vaf_cons (vf_pairs true (by rfl) hr.units (by rfl) TB.dict (vp_f (vf_lc (by rfl) S.nd (blkOk_by (N := ["script", "draws", "keys", "parents", "names", "born", "turn", "k", "slots", "slot", "kind", "kept", "one", "parent", "now", "due", "above", "some", "place", "two"]) (sc := defScope s_law) (own := [("one", 12)]) (by decide +kernel)) (by rfl) (vi_keys (vpu_e (ve_p (vp_var 2)))) (fun _ _ _ _ _ => (vg_name (by decide) S.nd)) (fun _ _ _ _ _ => (vts_one (vt_cmp (vc_ne hr.units (vb_p (vp_var 12)) (vb_p (vp_var 17)))))) (fun _ _ _ _ _ => (ve_tup (va_cons (ve_p (vp_var 12)) (va_cons (ve_dg hu1 (vp_var 2) (ve_p (vp_var 12))) va_nil))))))) (vaf_cons vf_dT0 vaf_nil)))) (vss_cons (vs_for PassesOwn.never (by rfl) (vi_keys (vpu_e (ve_p (vp_var 3)))) (vg_name (by decide) S.nd) (vss_one (vs_if (vt_cmp (vc_ne hr.units (vb_p (vp_var 12)) (vb_p (vp_var 17)))) (vss_cons (vs_put hu1 (by decide) (vo_ix (c := 1) (vo_var 15)) (ve_p (vp_var 12)) (ve_dg hu1 (vp_var 3) (ve_p (vp_var 12)))) (vss_one (vs_if (vt_cmp (vc_eq hr.units (vb_of (ve_dg hu1 (vp_var 3) (ve_p (vp_var 12)))) (vb_p (vp_var 17)))) (vss_one (vs_put hu1 (by decide) (vo_ix (c := 1) (vo_var 15)) (ve_p (vp_var 12)) (ve_dg hu1 (vp_var 3) (ve_p (vp_var 17))))) vss_nil))) vss_nil)) (by decide)) (vss_one (vs_setF (by decide) S.nd (vf_pairs false (by rfl) hr.units (by rfl) TB.dict (vp_f (vf_lock 4 (vf_lc (by rfl) S.nd (blkOk_by (N := ["script", "draws", "keys", "parents", "names", "born", "turn", "k", "slots", "slot", "kind", "kept", "one", "parent", "now", "due", "above", "some", "place", "two"]) (sc := defScope s_law) (own := [("one", 12)]) (by decide +kernel)) (by rfl) (vi_keys (vpu_var 4)) (fun _ _ _ _ _ => (vg_name (by decide) S.nd)) (fun _ _ _ _ _ => (vts_one (vt_cmp (vc_ne hr.units (vb_of (ve_dg hu1 (vp_var 4) (ve_p (vp_var 12)))) (vb_p (vp_var 17)))))) (fun _ _ _ _ _ => (ve_tup (va_cons (ve_p (vp_var 12)) (va_cons (ve_dg hu1 (vp_var 4) (ve_p (vp_var 12))) va_nil)))))))))))))) (vss_cons (vs_set (by decide) S.nd (ve_p (vp_ix (vp_var 8) (ve_f (vf_cal C__law_mix (hr.mono (by decide)) (by rfl) (va_cons (ve_p (vp_var 1)) (va_cons (ve_add (vb_p (vp_var 7)) (vb_of ve_int)) (va_cons (ve_len (by rfl) TB.len (vb_p (vp_var 8))) va_nil)))))))) (vss_cons (vs_if (vt_cmp (vc_inD hu1 (vb_p (vp_var 9)) (vb_p (vp_var 2)))) (vss_one vs_continue) vss_nil) (vss_cons (vs_set (by decide) S.nd (ve_f (vf_cal C_moved (hr.mono (by decide)) (by rfl) (va_cons (ve_p (vp_var 2)) (va_cons (ve_p (vp_var 3)) (va_cons (ve_p (vp_var 17)) (va_cons (ve_p (vp_var 9)) va_nil))))))) (vss_cons (vs_setF (by decide) S.nd (vf_tup (vaf_cons vf_dT0 (vaf_cons vf_dT0 vaf_nil)))) (vss_cons (vs_for PassesOwn.never (by rfl) (vi_keys (vpu_e (ve_p (vp_var 2)))) (vg_name (by decide) S.nd) (vss_cons (vs_set (by decide) S.nd (ve_p (vp_ix (vp_f (vf_lst (va_cons (ve_p (vp_var 12)) (va_cons (ve_p (vp_var 9)) va_nil)))) (ve_intc (by rfl) TB.int (vb_of (ve_cmp (vc_eq hr.units (vb_p (vp_var 12)) (vb_p (vp_var 17))))))))) (vss_cons (vs_put hu1 (by decide) (vo_ix (c := 0) (vo_var 15)) (ve_p (vp_var 18)) (ve_dg hu1 (vp_var 2) (ve_p (vp_var 12)))) (vss_cons (vs_put hu1 (by decide) (vo_ix (c := 1) (vo_var 15)) (ve_p (vp_var 18)) (ve_dg hu1 (vp_var 3) (ve_p (vp_var 12)))) (vss_one (vs_if (vt_cmp (vc_eq hr.units (vb_of (ve_dg hu1 (vp_var 3) (ve_p (vp_var 12)))) (vb_p (vp_var 17)))) (vss_one (vs_put hu1 (by decide) (vo_ix (c := 1) (vo_var 15)) (ve_p (vp_var 18)) (ve_p (vp_var 9)))) vss_nil))))) (by decide)) (vss_one (vs_setF (by decide) S.nd (vf_pairs false (by rfl) hr.units (by rfl) TB.dict (vp_f (vf_lock 4 (vf_lc (by rfl) S.nd (blkOk_by (N := ["script", "draws", "keys", "parents", "names", "born", "turn", "k", "slots", "slot", "kind", "kept", "one", "parent", "now", "due", "above", "some", "place", "two"]) (sc := defScope s_law) (own := [("one", 12)]) (by decide +kernel)) (by rfl) (vi_keys (vpu_var 4)) (fun _ _ _ _ _ => (vg_name (by decide) S.nd)) (fun _ _ _ _ _ => vts_nil) (fun _ _ _ _ _ => (ve_tup (va_cons (ve_p (vp_var 12)) (va_cons (ve_p (vp_ix (vp_f (vf_lst (va_cons (ve_dg hu1 (vp_var 4) (ve_p (vp_var 12))) (va_cons (ve_p (vp_var 9)) va_nil)))) (ve_intc (by rfl) TB.int (vb_of (ve_cmp (vc_eq hr.units (vb_of (ve_dg hu1 (vp_var 4) (ve_p (vp_var 12)))) (vb_p (vp_var 17)))))))) va_nil)))))))))))))))))) (vss_cons (vs_if (vt_w (vw_or (vt_cmp (vc_ne hr.units (vb_p (vp_var 14)) (vb_p (vp_var 15)))) (vw_or (vt_cmp (vc_ne hr.units (vb_of (ve_repr (by rfl) hr.units (by rfl) TB.repr (vb_of (ve_tup (va_cons (ve_p (vp_var 2)) (va_cons (ve_p (vp_var 3)) va_nil)))))) (vb_p (vp_var 11)))) (vw_or1 (vt_not (vt_of (ve_f (vf_cal C__law_right (hr.mono (by decide)) (by rfl) (va_cons (ve_p (vp_ix (vp_var 14) ve_int)) (va_cons (ve_p (vp_ix (vp_var 14) ve_int)) va_nil)))))))))) (vss_one (vs_ret ve_bl)) vss_nil) (vss_cons (vs_asg (ve_p (vp_var 14)) (vg_tup (n := 2) (by rfl) (vgs_cons (vg_name (by decide) S.nd) (vgs_cons (vg_name (by decide) S.nd) vgs_nil)) (puCons_len (puCons_len (fun _ _ _ h => puNil_len h))))) (vss_one (vs_mono (vs_lock 4 (by decide) (vs_for (T := [0, 1, 2, 3, 5, 6, 7, 8, 9, 10, 11, 12, 13, 14, 15, 16, 17, 18]) PassesOwn.never (by rfl) (vi_keys (vpu_var 4)) (vg_name (by decide) S.nd) (vss_cons (vs_thenF 16 (by decide) (vs_setLc (by decide) (by rfl) S.nd (blkOk_by (N := ["script", "draws", "keys", "parents", "names", "born", "turn", "k", "slots", "slot", "kind", "kept", "one", "parent", "now", "due", "above", "some", "place", "two"]) (sc := defScope s_law) (own := [("two", 19)]) (by decide +kernel)) (by rfl) (vi_list (vpu_e (ve_dg hu1 (vp_var 5) (ve_p (vp_var 12))))) (fun _ _ _ _ _ => (vg_name (by decide) S.nd)) (fun _ _ _ _ _ => (vts_one (vt_cmp (vc_inD hu1 (vb_p (vp_var 19)) (vb_p (vp_var 4)))))) (fun _ _ _ _ _ => (ve_p (vp_var 19))) (by rfl) (by rfl) (by decide +kernel))) (vss_one (vs_if (vt_cmp (vc_ne hr.units (vb_of (ve_f (vf_sortL hr.units (by rfl) TB.sorted (vp_f (vf_lc (by rfl) S.nd (blkOk_by (N := ["script", "draws", "keys", "parents", "names", "born", "turn", "k", "slots", "slot", "kind", "kept", "one", "parent", "now", "due", "above", "some", "place", "two"]) (sc := defScope s_law) (own := [("two", 19)]) (by decide +kernel)) (by rfl) (vi_list (vpu_e (ve_p (vp_var 16)))) (fun _ _ _ _ _ => (vg_name (by decide) S.nd)) (fun _ _ _ _ _ => vts_nil) (fun _ _ _ _ _ => (ve_dg hu1 (vp_var 4) (ve_p (vp_var 19))))))))) (vb_of (ve_f (vf_sortL hr.units (by rfl) TB.sorted (vp_f (vf_cal C__law_up (hr.mono (by decide)) (by rfl) (va_cons (ve_p (vp_var 3)) (va_cons (ve_dg hu1 (vp_var 4) (ve_p (vp_var 12))) va_nil))))))))) (vss_one (vs_ret ve_bl)) vss_nil))) (by decide))) (sub_of (by decide)))))))))))) (by decide)) (vss_one (vs_ret (ve_and (ve_cmp (vc_eq hr.units (vb_of (ve_f (vf_cal C_came_of (hr.mono (by decide)) (by rfl) (va_cons (ve_f (vf_disp true hr.units0 (vps_cons (ve_tup (va_cons ve_int (va_cons ve_int va_nil))) ve_non vps_nil) (by rfl) (by rfl) (fun z => (by cases z)) (by decide))) (va_cons (ve_tup (va_cons ve_int (va_cons ve_int va_nil))) va_nil))))) (vb_of (ve_f (vf_lst va_nil))))) (ve_one (ve_cmp (vc_eq hr.units (vb_of (ve_f (vf_cal C_without_slot (hr.mono (by decide)) (by rfl) (va_cons (ve_f (vf_disp true hr.units0 (vps_cons (ve_tup (va_cons ve_int (va_cons ve_int va_nil))) ve_int (vps_cons (ve_tup (va_cons ve_int (va_cons ve_int va_nil))) ve_int vps_nil)) (by rfl) (by rfl) (fun z => (by cases z)) (by decide))) (va_cons (ve_f (vf_disp true hr.units0 (vps_cons (ve_tup (va_cons ve_int (va_cons ve_int va_nil))) ve_non (vps_cons (ve_tup (va_cons ve_int (va_cons ve_int va_nil))) (ve_tup (va_cons ve_int (va_cons ve_int va_nil))) vps_nil)) (by rfl) (by rfl) (fun z => (by cases z)) (by decide))) (va_cons (ve_tup (va_cons ve_int (va_cons ve_int va_nil))) va_nil)))))) (vb_of (ve_tup (va_cons (ve_f (vf_disp true hr.units0 (vps_cons (ve_tup (va_cons ve_int (va_cons ve_int va_nil))) ve_int vps_nil) (by rfl) (by rfl) (fun z => (by cases z)) (by decide))) (va_cons (ve_f (vf_disp true hr.units0 (vps_cons (ve_tup (va_cons ve_int (va_cons ve_int va_nil))) ve_non vps_nil) (by rfl) (by rfl) (fun z => (by cases z)) (by decide))) va_nil))))))))))))))))
theorem top_law (TB : Txt mg) (C__law_draws : Cal P w K mg base "_law_draws" 1 1 F__law_draws) (C__law_mix : Cal P w K mg base "_law_mix" 1 3 F__law_mix) (C_with_key : Cal P w K mg base "with_key" 1 5 F_with_key) (C__law_up : Cal P w K mg base "_law_up" 1 2 F__law_up) (C_without_slot : Cal P w K mg base "without_slot" 1 3 F_without_slot) (C_moved : Cal P w K mg base "moved" 1 4 F_moved) (C__law_right : Cal P w K mg base "_law_right" 3 2 F__law_right) (C_came_of : Cal P w K mg base "came_of" 2 2 F_came_of) {f : Addr} {fd : FuncData} (F : Fun K "law" "law" s_law f fd) (hr : Room 4 callerA) : TopRun P w K mg base f fd "script" (VSp W0 K 1 F_law) :=
  VL.Fun.topV F sc_law (by decide) hr fun cdv s H EX hr => d_law TB C__law_draws C__law_mix C_with_key C__law_up C_without_slot C_moved C__law_right C_came_of f cdv s H EX hr
end
end K04

/-! K04m: forests, in plain words. -/
namespace K04
open PySem PySem.Spec PyProof.Rows L2 VL
abbrev Fo := List (PP × Option PP)
def ks (l : Fo) : List PP := l.map (·.1)
def upF : Nat → Fo → Option PP → List PP
  | 0, _, _ => []
  | _ + 1, _, none => []
  | n + 1, l, some q => q :: upF n l ((getL l q).join)
def par (l : Fo) (p : PP) : Option PP := (getL l p).join
def up (l : Fo) (p : PP) : List PP := upF 1000 l (par l p)
structure Fst (l : Fo) (n : Nat) (r : PP → Nat) : Prop where
  nd : (ks l).Nodup
  cl : ∀ p q, (p, some q) ∈ l → q ∈ ks l ∧ r q < r p
  bd : ∀ p ∈ ks l, r p ≤ n
section
variable {l : Fo} {n : Nat} {r : PP → Nat}
theorem Fst.mem (F : Fst l n r) {p : PP} (h : p ∈ ks l) : ∃ o, (p, o) ∈ l ∧ getL l p = some o := by
  obtain ⟨e, he, rfl⟩ := List.mem_map.mp h
  exact ⟨e.2, he, getL_of_mem F.nd he⟩
theorem Fst.par_cl (F : Fst l n r) {p q : PP} (h : par l p = some q) : q ∈ ks l ∧ r q < r p ∧ p ∈ ks l := by
  unfold par at h
  cases e : getL l p with
  | none => rw [e] at h; cases h
  | some o =>
    rw [e] at h
    have h : o = some q := h
    subst h
    have := F.cl p q (getL_some e)
    exact ⟨this.1, this.2, List.mem_map.mpr ⟨_, getL_some e, rfl⟩⟩
theorem Fst.stable (F : Fst l n r) : ∀ (a b : Nat) (q : PP), q ∈ ks l → r q < a → r q < b → upF a l (some q) = upF b l (some q)
  | 0, _, _, _, h, _ => by omega
  | _ + 1, 0, _, _, _, h => by omega
  | a + 1, b + 1, q, hq, h1, h2 => by
    show q :: upF a l (par l q) = q :: upF b l (par l q)
    congr 1
    cases e : par l q with
    | none => cases a <;> cases b <;> rfl
    | some q' =>
      obtain ⟨h3, h4, _⟩ := F.par_cl e
      exact Fst.stable F a b q' h3 (by omega) (by omega)
theorem Fst.up_eq (F : Fst l n r) (hn : n < 900) {p : PP} : up l p = match par l p with
    | none => []
    | some q => q :: up l q := by
  unfold up
  cases e : par l p with
  | none => rfl
  | some q =>
    obtain ⟨h3, h4, h5⟩ := F.par_cl e
    show q :: upF 999 l (par l q) = q :: upF 1000 l (par l q)
    congr 1
    cases e2 : par l q with
    | none => rfl
    | some q' =>
      obtain ⟨h6, h7, h8⟩ := F.par_cl e2
      have h9 := F.bd q' h6
      exact F.stable 999 1000 q' h6 (by omega) (by omega)
/-- by the rank -/
theorem Fst.ind (F : Fst l n r) {P : PP → Prop} (h : ∀ p, (∀ q, par l p = some q → P q) → P p) : ∀ p, P p := by
  have : ∀ (m : Nat) (p : PP), r p < m → P p := by
    intro m
    induction m with
    | zero => intro p hp; omega
    | succ m ih =>
      intro p hp
      refine h p fun q e => ih q ?_
      have := (F.par_cl e).2.1
      omega
  exact fun p => this (r p + 1) p (by omega)
theorem Fst.up_mem (F : Fst l n r) (hn : n < 900) : ∀ p x, x ∈ up l p → x ∈ ks l ∧ r x < r p := by
  refine F.ind fun p ih => ?_
  intro x hx
  rw [F.up_eq hn] at hx
  cases e : par l p with
  | none => rw [e] at hx; cases hx
  | some q =>
    rw [e] at hx
    obtain ⟨h3, h4, _⟩ := F.par_cl e
    rcases List.mem_cons.mp hx with rfl | hx
    · exact ⟨h3, h4⟩
    · have := ih q e x hx
      exact ⟨this.1, by omega⟩
theorem Fst.up_len (F : Fst l n r) (hn : n < 900) : ∀ p, (up l p).length ≤ r p := by
  refine F.ind fun p ih => ?_
  rw [F.up_eq hn]
  cases e : par l p with
  | none => exact Nat.zero_le _
  | some q =>
    have := ih q e
    have := (F.par_cl e).2.1
    show (up l q).length + 1 ≤ _
    omega
theorem Fst.up_nd (F : Fst l n r) (hn : n < 900) : ∀ p, (up l p).Nodup := by
  refine F.ind fun p ih => ?_
  rw [F.up_eq hn]
  cases e : par l p with
  | none => exact List.nodup_nil
  | some q =>
    refine List.nodup_cons.mpr ⟨fun h => ?_, ih q e⟩
    have := (F.up_mem hn q q h).2
    omega
def desc (l : Fo) (x : PP) : List PP := (ks l).filter fun y => decide (x ∈ up l y)
def kids (l : Fo) (x : PP) : List PP := (sortP (ks l)).filter fun y => decide (getL l y = some (some x))
theorem Fst.mem_desc {x y : PP} : y ∈ desc l x ↔ y ∈ ks l ∧ x ∈ up l y := by
  unfold desc
  rw [List.mem_filter, decide_eq_true_eq]
theorem mem_kids {x y : PP} : y ∈ kids l x ↔ par l y = some x := by
  unfold kids par
  rw [List.mem_filter, decide_eq_true_eq, (sortP_perm _).mem_iff]
  constructor
  · rintro ⟨_, h⟩; rw [h]; rfl
  · intro h
    cases e : getL l y with
    | none => rw [e] at h; cases h
    | some o =>
      rw [e] at h
      have h : o = some x := h
      subst h
      exact ⟨List.mem_map.mpr ⟨_, getL_some e, rfl⟩, rfl⟩
theorem Fst.desc_perm (F : Fst l n r) (hn : n < 900) (w : PP) : (desc l w).Perm (kids l w ++ (kids l w).flatMap (desc l)) := by
  have knd : (kids l w).Nodup := List.Pairwise.filter _ ((sortP_perm _).nodup_iff.mpr F.nd)
  have dnd : ∀ x, (desc l x).Nodup := fun x => List.Pairwise.filter _ F.nd
  -- an upper one below a kid's kid
  have up1 : ∀ y c, par l c = some w → c ∈ up l y → w ∈ up l y := by
    intro y c hc
    revert y
    refine F.ind fun y ih => ?_
    intro h
    rw [F.up_eq hn] at h ⊢
    cases e : par l y with
    | none => rw [e] at h; cases h
    | some q =>
      rw [e] at h
      rcases List.mem_cons.mp h with rfl | h
      · refine List.mem_cons_of_mem _ ?_
        rw [F.up_eq hn, hc]
        exact List.mem_cons_self
      · exact List.mem_cons_of_mem _ (ih q e h)
  have down : ∀ y, w ∈ up l y → par l y = some w ∨ ∃ c, par l c = some w ∧ c ∈ up l y := by
    refine F.ind fun y ih => ?_
    intro h
    rw [F.up_eq hn] at h
    cases e : par l y with
    | none => rw [e] at h; cases h
    | some q =>
      rw [e] at h
      rcases List.mem_cons.mp h with rfl | h
      · exact .inl rfl
      · refine .inr ?_
        rcases ih q e h with h2 | ⟨c, h2, h3⟩
        · refine ⟨q, h2, ?_⟩
          rw [F.up_eq hn, e]
          exact List.mem_cons_self
        · refine ⟨c, h2, ?_⟩
          rw [F.up_eq hn, e]
          exact List.mem_cons_of_mem _ h3
  -- two kids above one
  have uniq : ∀ y c c', par l c = some w → par l c' = some w → c ∈ up l y → c' ∈ up l y → c = c' := by
    intro y c c' hc hc'
    revert y
    have key : ∀ a b, par l a = some w → par l b = some w → b ∈ up l a → False := by
      intro a b ha hb h
      rw [F.up_eq hn, ha] at h
      have h1 := (F.par_cl hb).2.1
      rcases List.mem_cons.mp h with rfl | h
      · omega
      · have := (F.up_mem hn w b h).2
        omega
    refine F.ind fun y ih => ?_
    intro h h'
    rw [F.up_eq hn] at h h'
    cases e : par l y with
    | none => rw [e] at h; cases h
    | some q =>
      rw [e] at h h'
      rcases List.mem_cons.mp h with h | h
      · rcases List.mem_cons.mp h' with h' | h'
        · rw [h, h']
        · subst h; exact (key _ _ hc hc' h').elim
      · rcases List.mem_cons.mp h' with h' | h'
        · subst h'; exact (key _ _ hc' hc h).elim
        · exact ih q e h h'
  have apart : ∀ y c, par l y = some w → par l c = some w → c ∈ up l y → False := by
    intro y c hy hc h
    rw [F.up_eq hn, hy] at h
    have h1 := (F.par_cl hc).2.1
    rcases List.mem_cons.mp h with rfl | h
    · omega
    · have := (F.up_mem hn w c h).2
      omega
  have fnd : ∀ cs : List PP, cs.Nodup → (∀ c ∈ cs, par l c = some w) → (cs.flatMap (desc l)).Nodup := by
    intro cs
    induction cs with
    | nil => intro _ _; exact List.nodup_nil
    | cons c cs ih =>
      intro hnd hp
      rw [List.nodup_cons] at hnd
      rw [List.flatMap_cons, List.nodup_append]
      refine ⟨dnd c, ih hnd.2 fun c' h => hp c' (List.mem_cons_of_mem _ h), fun a ha b hb e => ?_⟩
      subst e
      obtain ⟨c', hc', hb⟩ := List.mem_flatMap.mp hb
      have := uniq a c c' (hp c List.mem_cons_self) (hp c' (List.mem_cons_of_mem _ hc')) (Fst.mem_desc.mp ha).2 (Fst.mem_desc.mp hb).2
      subst this
      exact hnd.1 hc'
  refine (List.perm_ext_iff_of_nodup (dnd w) ?_).mpr fun y => ?_
  · rw [List.nodup_append]
    refine ⟨knd, fnd _ knd fun c h => mem_kids.mp h, fun a ha b hb e => ?_⟩
    subst e
    obtain ⟨c', hc', hb⟩ := List.mem_flatMap.mp hb
    exact apart a c' (mem_kids.mp ha) (mem_kids.mp hc') (Fst.mem_desc.mp hb).2
  · rw [Fst.mem_desc, List.mem_append, List.mem_flatMap]
    constructor
    · rintro ⟨h1, h2⟩
      rcases down y h2 with h | ⟨c, h, h3⟩
      · exact .inl (mem_kids.mpr h)
      · exact .inr ⟨c, mem_kids.mpr h, Fst.mem_desc.mpr ⟨h1, h3⟩⟩
    · rintro (h | ⟨c, h, h3⟩)
      · have h := mem_kids.mp h
        refine ⟨(F.par_cl h).2.2, ?_⟩
        rw [F.up_eq hn, h]
        exact List.mem_cons_self
      · obtain ⟨h4, h5⟩ := Fst.mem_desc.mp h3
        exact ⟨h4, up1 y c (mem_kids.mp h) h5⟩
end
end K04

/-! K04e: what the defs of k04 answer. -/
namespace K04
open PySem PySem.Spec PyProof.Rows L2 VL
def ov : Option PP → Val
  | none => .non
  | some q => pv q
def PV (l : Fo) : Val := .dic true (encP.d (l.map fun p => (p.1, ov p.2)))
def KV2 (m : List (PP × Val)) : Val := .dic true (encP.d m)
theorem dgP (l : Fo) (p : PP) : dgO (.sh (PV l)) (pv p) = some ((getL l p).map ov) := by
  show VL.dget true _ (pv p) = _
  rw [show pv p = encP.e p from rfl, show true = encP.b from rfl, encP.dget, getL_map]
theorem dgK (m : List (PP × Val)) (p : PP) : dgO (.sh (KV2 m)) (pv p) = some (getL m p) := by
  show VL.dget true _ (pv p) = _
  rw [show pv p = encP.e p from rfl, show true = encP.b from rfl, encP.dget]
theorem encP_keys (m : List (PP × Val)) : (encP.d m).map (·.1) = (m.map (·.1)).map pv := by
  unfold Enc.d; rw [List.map_map, List.map_map]; rfl
theorem PV_k (l : Fo) : (encP.d (l.map fun p => (p.1, ov p.2))).map (·.1) = (ks l).map pv := by
  rw [encP_keys]
  simp [ks, List.map_map, Function.comp_def]
/-- ints and pairs, None: as data -/
theorem dfree_ov (o : Option PP) : dfree (ov o) = true := by cases o <;> rfl
theorem eqv_pv (a b : PP) : PyData.eqv (pv a).toD (pv b).toD = decide (a = b) := by
  obtain ⟨a1, a2⟩ := a
  obtain ⟨b1, b2⟩ := b
  show PyData.eqv (.tuple [.int a1, .int a2]) (.tuple [.int b1, .int b2]) = _
  simp only [PyData.eqv, PyData.eqvAll, Bool.and_true]
  rw [Bool.eq_iff_iff]
  simp
theorem veq_ov (a b : Option PP) : veq (ov a) (ov b) = decide (a = b) := by
  have h : (dfree (ov a) && dfree (ov b)) = true := by rw [dfree_ov, dfree_ov]; rfl
  rw [veq_df h]
  cases a with
  | none =>
    cases b with
    | none => rfl
    | some b => rfl
  | some a =>
    cases b with
    | none => rfl
    | some b => show PyData.eqv (pv a).toD (pv b).toD = _; rw [eqv_pv]; simp
theorem gEq_ov (a b : Option PP) : gEq (ov a) (ov b) = some (.bl (decide (a = b))) := by
  unfold gEq
  have h1 : vok (ov a) (ov b) = true := by unfold vok; rw [dfree_ov, dfree_ov]; rfl
  have h2 : dep64 (ov a) = true := by cases a <;> rfl
  rw [h1, h2, veq_ov]; rfl
theorem gNe_ov (a b : Option PP) : gNe (ov a) (ov b) = some (.bl (!decide (a = b))) := by
  unfold gNe
  have h1 : vok (ov a) (ov b) = true := by unfold vok; rw [dfree_ov, dfree_ov]; rfl
  have h2 : dep64 (ov a) = true := by cases a <;> rfl
  rw [h1, h2, dfree_ov, dfree_ov, veq_ov]
  cases a <;> cases b <;> rfl
variable {u : W0.S}
theorem up_turns {l : Fo} {n : Nat} {r : PP → Nat} (F : Fst l n r) {p : PP} : ∀ (m : Nat) (o : Option PP) (acc : List Val), (∀ q, o = some q → q ∈ ks l ∧ r q + 1 < m) → acc.length + m ≤ 2000 → 0 < m →
    whileS (tst (e2 (gIsN true) (bP (pVar 3)) (eC .non))) (cSeq (cApp 2 [] (eP (pVar 3))) (cSet 3 (eDg (pVar 0) (eP (pVar 3))))) m [some (.sh (PV l)), some (.sh (pv p)), some (.oL acc), some (.sh (ov o))] u =
      (.nx [some (.sh (PV l)), some (.sh (pv p)), some (.oL (acc ++ (upF m l o).map pv)), some (.sh .non)] u : Out W0.S) := by
  intro m
  induction m with
  | zero => intro o acc _ _ h; omega
  | succ m ih =>
    intro o acc h hl _
    cases o with
    | none => simp [whileS, upF, ov, Val.isN]
    | some q =>
      obtain ⟨hq, hr⟩ := h q rfl
      obtain ⟨o', h3, h4⟩ := F.mem hq
      have hs : acc.length < sizeLine := by rw [sizeLine_eq]; omega
      have ih' := ih o' (acc ++ [pv q]) (fun q' e => by
        subst e
        have := F.cl q q' h3
        exact ⟨this.1, by omega⟩) (by rw [List.length_append, List.length_singleton]; omega) (by omega)
      have e1 : upF (m + 1) l (some q) = q :: upF m l o' := by
        show q :: upF m l ((getL l q).join) = _
        rw [h4]; rfl
      have e2 : dgO (.sh (PV l)) (ov (some q)) = some (some (ov o')) := by
        show dgO (.sh (PV l)) (pv q) = _
        rw [dgP, h4]; rfl
      have e3 : (ov (some q)).isN = false := rfl
      have e4 : ov (some q) = pv q := rfl
      rw [e1]
      rw [e4] at e2 e3 ⊢
      simp [whileS, hs, e2, e3]
      simpa using ih'
theorem up_run {l : Fo} {n : Nat} {r : PP → Nat} (F : Fst l n r) (hn : n < 900) {p : PP} (hp : p ∈ ks l) : F__law_up [PV l, pv p] u = .ok (.oL ((up l p).map pv)) u := by
  obtain ⟨o, h1, h2⟩ := F.mem hp
  have e1 : up l p = upF 1000 l o := by unfold up par; rw [h2]; rfl
  have e2 : dgO (.sh (PV l)) (pv p) = some (some (ov o)) := by rw [dgP, h2]; rfl
  have t := up_turns (u := u) F (p := p) 1000 o [] (fun q e => by
    subst e
    obtain ⟨h3, _⟩ := F.cl p q h1
    exact ⟨h3, by have := F.bd q h3; omega⟩) (by simp) (by omega)
  unfold F__law_up cDef0 cDef c__law_up
  simp [enter, small, e2, t, e1]
theorem anc_run {l : Fo} {n : Nat} {r : PP → Nat} (F : Fst l n r) (hn : n < 900) {p : PP} (hp : p ∈ ks l) : F_ancestors_of [PV l, pv p] u = .ok (.oL ((up l p).map pv)) u := up_run F hn hp
def unpv : Val → PP
  | .tup [.int a, .int b] => (a, b)
  | _ => (0, 0)
@[simp] theorem unpv_pv (p : PP) : unpv (pv p) = p := rfl
theorem gSortD_P {l : Fo} (h : l.length ≤ 1000) : gSortD (.sh (PV l)) = some (.oL ((sortP (ks l)).map pv)) := by
  show (sortL ((encP.d (l.map fun p => (p.1, ov p.2))).map (·.1))).map OT.oL = _
  rw [PV_k, sortL_pv (by unfold ks; rw [List.length_map, sizeLine_eq]; omega)]
  rfl
theorem gSortD_K {m : List (PP × Val)} (h : m.length ≤ 1000) : gSortD (.sh (KV2 m)) = some (.oL ((sortP (m.map (·.1))).map pv)) := by
  show (sortL ((encP.d m).map (·.1))).map OT.oL = _
  rw [encP_keys, sortL_pv (by rw [List.length_map, sizeLine_eq]; omega)]
  rfl
theorem filter_pv (P : Val → Bool) (L : List PP) : ((L.map pv).filter P).map (fun x => x) = (L.filter fun p => P (pv p)).map pv := by
  rw [List.map_id', List.filter_map]; rfl
theorem kids_run {l : Fo} {n : Nat} {r : PP → Nat} (F : Fst l n r) (hl : l.length ≤ 1000) {p : PP} : F_children_of [PV l, pv p] u = .ok (.oL ((kids l p).map pv)) u := by
  have e0 := gSortD_P hl
  have e1 := compS_map (W := W0) (s := u) (ρ := [some (.sh (PV l)), some (.sh (pv p)), none]) (vs := [2]) (i := 2) (t := tst (e2 gEq (eDg (pVar 0) (eP (pVar 2))) (bP (pVar 1)))) (f := eP (pVar 2))
    (fun v => decide (getL l (unpv v) = some (some p))) (fun v => v) (xs := (sortP (ks l)).map pv) (acc := []) (fun x hx => by
      obtain ⟨y, hy, rfl⟩ := List.mem_map.mp hx
      obtain ⟨o, h3, h4⟩ := F.mem ((sortP_perm _).mem_iff.mp hy)
      have e2 : dgO (.sh (PV l)) (pv y) = some (some (ov o)) := by rw [dgP, h4]; rfl
      have e3 : gEq (ov o) (pv p) = some (.bl (decide (o = some p))) := gEq_ov o (some p)
      simp [wipeE, e2, e3, h4]) (fun x _ _ => by simp [wipeE]) (by
        rw [List.length_map, (sortP_perm _).length_eq, sizeLine_eq]; unfold ks; rw [List.length_map]; simp; omega)
  rw [filter_pv] at e1
  unfold F_children_of cDef0 cDef c_children_of
  simp only [List.nil_append, unpv_pv] at e1
  simp [enter, e0, e1, kids]
  rfl
/-- how much is still to be gone through -/
def todo (l : Fo) (wait : List PP) : Nat := (wait.flatMap (desc l)).length
theorem came_turns {l : Fo} {n : Nat} {r : PP → Nat} (F : Fst l n r) (hn : n < 900) (hl : l.length ≤ 1000) {p : PP} : ∀ (m : Nat) (wait found : List PP) (x4 x5 : Option OT), wait.length + todo l wait < m → found.length + todo l wait ≤ 1000 → m ≤ 5000 →
    ∃ (out : List PP) (y4 y5 : Option OT), whileS (tst (e2 gGt (eCl gLen (eCons (bP (pVar 3)) eNil)) (eC (.int 0)))) (cSeq (cPop 4 3 []) (cSeq (cSet 5 (eF (fCall 2 F_children_of (eCons (eP (pVar 0)) (eCons (eP (pVar 4)) eNil))))) (cSeq (cExt 2 [] (eP (pVar 5))) (cExt 3 [] (eP (pVar 5)))))) m
      [some (.sh (PV l)), some (.sh (pv p)), some (.oL (found.map pv)), some (.oL (wait.map pv)), x4, x5] u = (.nx [some (.sh (PV l)), some (.sh (pv p)), some (.oL (out.map pv)), some (.oL []), y4, y5] u : Out W0.S) ∧ out.Perm (found ++ wait.flatMap (desc l)) := by
  intro m
  induction m with
  | zero => intro wait found x4 x5 h; omega
  | succ m ih =>
    intro wait found x4 x5 hm hf hm5
    rcases List.eq_nil_or_concat wait with rfl | ⟨ws, w, rfl⟩
    · refine ⟨found, x4, x5, ?_, by simp⟩
      simp [whileS]
    · rw [List.concat_eq_append] at hm hf ⊢
      have dp := F.desc_perm hn w
      have kl : (kids l w).length + ((kids l w).flatMap (desc l)).length = (desc l w).length := by
        have := dp.length_eq
        rw [List.length_append] at this
        omega
      have t1 : todo l (ws ++ [w]) = todo l ws + (desc l w).length := by
        unfold todo
        rw [List.flatMap_append, List.length_append]
        simp
      have t2 : todo l (ws ++ kids l w) = todo l ws + ((kids l w).flatMap (desc l)).length := by
        unfold todo
        rw [List.flatMap_append, List.length_append]
      rw [List.length_append, List.length_singleton] at hm
      have kr := kids_run (u := u) F hl (p := w)
      obtain ⟨out, y4, y5, e1, e2⟩ := ih (ws ++ kids l w) (found ++ kids l w) (some (.sh (pv w))) (some (.sh (.lst ((kids l w).map pv)))) (by rw [List.length_append]; omega) (by rw [List.length_append]; omega) (by omega)
      refine ⟨out, y4, y5, ?_, ?_⟩
      · have h1 : found.length + (kids l w).length ≤ sizeLine := by rw [sizeLine_eq]; omega
        have h2 : ws.length + (kids l w).length ≤ sizeLine := by rw [sizeLine_eq]; omega
        rw [List.map_append, List.map_append] at e1
        have h3 : (0 : Int) < (ws.length : Int) + 1 := by omega
        simp [whileS, h3, kr, h1, h2]
        exact e1
      · refine e2.trans ?_
        rw [List.flatMap_append, List.flatMap_append]
        have : (found ++ kids l w ++ (List.flatMap (desc l) ws ++ (kids l w).flatMap (desc l))).Perm (found ++ (List.flatMap (desc l) ws ++ (kids l w ++ (kids l w).flatMap (desc l)))) := by
          rw [List.append_assoc]
          refine List.Perm.append_left _ ?_
          rw [← List.append_assoc, ← List.append_assoc]
          exact List.Perm.append_right _ List.perm_append_comm
        refine this.trans ?_
        refine List.Perm.append_left _ (List.Perm.append_left _ ?_)
        simpa using dp.symm
theorem gSortL_pv {L : List PP} (h : L.length ≤ 5000) : gSortL (.oL (L.map pv)) = some (.oL ((sortP L).map pv)) := by
  show (sortL (L.map pv)).map OT.oL = _
  rw [sortL_pv (by rw [sizeLine_eq]; omega)]
  rfl
theorem gSortL_sh {L : List PP} (h : L.length ≤ 5000) : gSortL (.sh (.lst (L.map pv))) = some (.oL ((sortP L).map pv)) := by
  show (sortL (L.map pv)).map OT.oL = _
  rw [sortL_pv (by rw [sizeLine_eq]; omega)]
  rfl
theorem came_run {l : Fo} {n : Nat} {r : PP → Nat} (F : Fst l n r) (hn : n < 900) (hl : l.length ≤ 900) {p : PP} : F_came_of [PV l, pv p] u = .ok (.oL ((sortP (desc l p)).map pv)) u := by
  have dl : (desc l p).length ≤ l.length := by
    unfold desc ks
    refine Nat.le_trans (List.length_filter_le _ _) ?_
    rw [List.length_map]; exact Nat.le_refl _
  have td : todo l [p] = (desc l p).length := by unfold todo; simp
  obtain ⟨out, y4, y5, e1, e2⟩ := came_turns (u := u) F hn (by omega) (p := p) 1000 [p] [] none none (by rw [td]; simp; omega) (by rw [td]; simp; omega) (by omega)
  have e2 : out.Perm (desc l p) := by simpa using e2
  have e3 := gSortL_pv (L := out) (by have := e2.length_eq; omega)
  rw [sortP_eq e2] at e3
  simp only [List.map_nil, List.map_cons] at e1
  unfold F_came_of cDef0 cDef c_came_of
  have h1 : 1 ≤ sizeLine := by rw [sizeLine_eq]; omega
  simp [enter, small, h1, e1, e3]
end K04

/-! K04f: without_slot, with_key, moved. -/
namespace K04
open PySem PySem.Spec PyProof.Rows L2 VL
variable {u : W0.S}
def del (l : Fo) (p : PP) : Fo := (l.filter fun e => !decide (e.1 = p)).map fun e => (e.1, if e.2 = some p then par l p else e.2)
def mv (l : Fo) (p t : PP) : Fo := l.map fun e => (if e.1 = p then t else e.1, if e.2 = some p then some t else e.2)
theorem gNe_pv (a b : PP) : gNe (pv a) (pv b) = some (.bl (!decide (a = b))) := by
  show gNe (ov (some a)) (ov (some b)) = _
  rw [gNe_ov]; simp
theorem gEq_pv (a b : PP) : gEq (pv a) (pv b) = some (.bl (decide (a = b))) := by
  show gEq (ov (some a)) (ov (some b)) = _
  rw [gEq_ov]; simp
theorem putsP {A : List (PP × Val)} (h : (A.map (·.1)).Nodup) : putsV [] (encP.d A) = encP.d A := by
  have := encP.puts A [] (by simpa using h)
  simpa [Enc.d] using this
/-- a dict comprehension over the keys of a dict of pairs -/
theorem comp_keys {ρ : En} {vs : List Nat} {i : Nat} {t : Sm W0 Bool} {vf : Ev W0} {L : List PP} (Pd : PP → Bool) (g : PP → Val) (hn : L.Nodup) (hz : L.length ≤ 1000) (h1 : ∀ y ∈ L, t ((wipeE ρ vs).set i (some (.sh (pv y)))) u = .ok (Pd y) u)
    (h2 : ∀ y ∈ L, Pd y = true → vf ((wipeE ρ vs).set i (some (.sh (pv y)))) u = .ok (g y) u) (h3 : ∀ v, (eP (pVar i) : Ev W0) ((wipeE ρ vs).set i (some (.sh v))) u = .ok v u) :
    compD true ρ vs (puN i) t (eP (pVar i)) vf (L.map pv) [] u = .ok (.oD true (encP.d ((L.filter Pd).map fun y => (y, g y)))) u := by
  have e := compD_map (W := W0) (s := u) (ρ := ρ) (vs := vs) (i := i) (b := true) (t := t) (kf := eP (pVar i)) (vf := vf) (fun v => Pd (unpv v)) (fun v => v) (fun v => g (unpv v)) (xs := L.map pv) (acc := []) (fun x hx => by
    obtain ⟨y, hy, rfl⟩ := List.mem_map.mp hx
    exact h1 y hy) (fun x hx hp => by
    obtain ⟨y, hy, rfl⟩ := List.mem_map.mp hx
    exact ⟨h3 _, h2 y hy hp, _, rfl, rfl⟩) (by rw [List.length_map, sizeLine_eq]; simp; omega)
  rw [e]
  have e2 : ((L.map pv).filter fun v => Pd (unpv v)).map (fun x => (x, g (unpv x))) = encP.d ((L.filter Pd).map fun y => (y, g y)) := by
    rw [List.filter_map, List.map_map]
    unfold Enc.d
    rw [List.map_map]
    rfl
  rw [e2, putsP]
  rw [List.map_map]
  have : ((L.filter Pd).map ((fun x : PP × Val => x.1) ∘ fun y => (y, g y))) = L.filter Pd := by
    show (L.filter Pd).map (fun y => y) = _
    rw [List.map_id']
  rw [this]
  exact List.Pairwise.filter _ hn
theorem keysI_P (l : Fo) : (OT.sh (PV l)).keysI = some ((ks l).map pv) := by
  show some _ = _
  rw [PV_k]
theorem keysI_K (m : List (PP × Val)) : (OT.sh (KV2 m)).keysI = some ((m.map (·.1)).map pv) := by
  show some _ = _
  rw [encP_keys]
theorem filter_keys {m : List (PP × Val)} (hn : (m.map (·.1)).Nodup) (Pd : PP → Bool) (g : PP → Val) (hg : ∀ e ∈ m, g e.1 = e.2) : (((m.map (·.1)).filter Pd).map fun y => (y, g y)) = m.filter fun e => Pd e.1 := by
  rw [List.filter_map, List.map_map]
  have : ∀ (k : List (PP × Val)), (∀ e ∈ k, g e.1 = e.2) → (k.filter (Pd ∘ fun x => x.1)).map ((fun y => (y, g y)) ∘ fun x => x.1) = k.filter fun e => Pd e.1 := by
    intro k
    induction k with
    | nil => intro _; rfl
    | cons e k ih =>
      intro h
      rw [List.filter_cons, List.filter_cons]
      have ih' := ih fun e he => h e (List.mem_cons_of_mem _ he)
      by_cases q : Pd e.1 = true
      · rw [if_pos (show (Pd ∘ fun x => x.1) e = true from q), if_pos q, List.map_cons, ih']
        congr 1
        show (e.1, g e.1) = e
        rw [h e List.mem_cons_self]
      · rw [if_neg (show ¬ (Pd ∘ fun x => x.1) e = true from q), if_neg q, ih']
  exact this m hg
theorem without_run {l : Fo} {n : Nat} {r : PP → Nat} (F : Fst l n r) (hl : l.length ≤ 900) {m : List (PP × Val)} (hm : (m.map (·.1)).Nodup) (hm2 : m.length ≤ 900) {p : PP} (hp : p ∈ ks l) :
    F_without_slot [KV2 m, PV l, pv p] u = .ok (.sh (.tup [KV2 (m.filter fun e => !decide (e.1 = p)), PV (del l p)])) u := by
  obtain ⟨o, h1, h2⟩ := F.mem hp
  have e0 : dgO (.sh (PV l)) (pv p) = some (some (ov o)) := by rw [dgP, h2]; rfl
  have ep : par l p = o := by unfold par; rw [h2]; rfl
  have c1 := comp_keys (u := u) (ρ := [some (.sh (KV2 m)), some (.sh (PV l)), some (.sh (pv p)), some (.sh (ov o)), none, none]) (vs := [5]) (i := 5) (t := tst (e2 gNe (bP (pVar 5)) (bP (pVar 2))))
    (vf := eIf (tst (e2 gEq (eDg (pVar 1) (eP (pVar 5))) (bP (pVar 2)))) (eP (pVar 3)) (eDg (pVar 1) (eP (pVar 5)))) (L := ks l) (fun y => !decide (y = p)) (fun y => ov (if par l y = some p then o else par l y)) F.nd (by unfold ks; rw [List.length_map]; omega)
    (fun y _ => by simp [wipeE, gNe_pv]) (fun y hy _ => by
      obtain ⟨o', h3, h4⟩ := F.mem hy
      have e2 : dgO (.sh (PV l)) (pv y) = some (some (ov o')) := by rw [dgP, h4]; rfl
      have e3 : gEq (ov o') (pv p) = some (.bl (decide (o' = some p))) := gEq_ov o' (some p)
      have e4 : par l y = o' := by unfold par; rw [h4]; rfl
      by_cases q : o' = some p
      · subst q
        simp [wipeE, e2, e3, e4]
      · simp [wipeE, e2, e3, e4, q]) (fun v => by simp [wipeE])
  have c2 := comp_keys (u := u) (ρ := [some (.sh (KV2 m)), some (.sh (PV l)), some (.sh (pv p)), some (.sh (ov o)), some (.sh (.dic true (encP.d (((ks l).filter fun y => !decide (y = p)).map fun y => (y, ov (if par l y = some p then o else par l y)))))), none]) (vs := [5]) (i := 5) (t := tst (e2 gNe (bP (pVar 5)) (bP (pVar 2))))
    (vf := eDg (pVar 0) (eP (pVar 5))) (L := m.map (·.1)) (fun y => !decide (y = p)) (fun y => (getL m y).getD .non) hm (by rw [List.length_map]; omega)
    (fun y _ => by simp [wipeE, gNe_pv]) (fun y hy _ => by
      obtain ⟨e, he, rfl⟩ := List.mem_map.mp hy
      have h3 := getL_of_mem hm (k := e.1) (v := e.2) he
      have e2 : dgO (.sh (KV2 m)) (pv e.1) = some (some e.2) := by rw [dgK, h3]
      simp [wipeE, e2, h3]) (fun v => by simp [wipeE])
  have f1 : (((ks l).filter fun y => !decide (y = p)).map fun y => (y, ov (if par l y = some p then o else par l y))) = (del l p).map fun e => (e.1, ov e.2) := by
    have g := filter_keys (m := l.map fun e => (e.1, ov (if e.2 = some p then o else e.2))) (by rw [List.map_map]; exact F.nd) (fun y => !decide (y = p)) (fun y => ov (if par l y = some p then o else par l y)) (fun e he => by
      obtain ⟨e', he', rfl⟩ := List.mem_map.mp he
      have : par l e'.1 = e'.2 := by unfold par; rw [getL_of_mem F.nd (k := e'.1) (v := e'.2) he']; rfl
      show ov (if par l e'.1 = some p then o else par l e'.1) = ov (if e'.2 = some p then o else e'.2)
      rw [this])
    have k1 : ((l.map fun e => (e.1, ov (if e.2 = some p then o else e.2))).map (·.1)) = ks l := by rw [List.map_map]; rfl
    rw [k1] at g
    rw [g]
    unfold del
    rw [List.map_map, List.filter_map, ep]
    rfl
  have f2 : (((m.map (·.1)).filter fun y => !decide (y = p)).map fun y => (y, (getL m y).getD .non)) = m.filter fun e => !decide (e.1 = p) :=
    filter_keys hm (fun y => !decide (y = p)) (fun y => (getL m y).getD .non) fun e he => by
      show (getL m e.1).getD .non = e.2
      rw [getL_of_mem hm (k := e.1) (v := e.2) he]; rfl
  rw [f1] at c1 c2
  rw [f2] at c2
  have k1 := keysI_P l
  have k2 := keysI_K m
  have h2 : 2 ≤ sizeLine := by rw [sizeLine_eq]; omega
  generalize hL : (m.map (·.1)).map pv = L at k2 c2
  unfold F_without_slot cDef0 cDef c_without_slot
  simp [enter, e0, k1, k2, c1, c2, small, h2]
  exact ⟨rfl, rfl⟩
/-! with_key -/
def grid : List PP := [(0, 0), (0, 1), (0, 2), (0, 3), (0, 4), (0, 5), (1, 0), (1, 1), (1, 2), (1, 3), (1, 4), (1, 5), (2, 0), (2, 1), (2, 2), (2, 3), (2, 4), (2, 5)]
theorem grid_apart : (grid.map fun p => vHash (pv p)).Nodup := by decide +kernel
theorem nodup_on {α β : Type} {f : α → β} : ∀ {l : List α}, (∀ a ∈ l, ∀ b ∈ l, f a = f b → a = b) → l.Nodup → (l.map f).Nodup
  | [], _, _ => by simp
  | a :: l, h, n => by
    rw [List.nodup_cons] at n
    rw [List.map_cons, List.nodup_cons]
    refine ⟨fun z => n.1 ?_, nodup_on (fun a ha b hb => h a (List.mem_cons_of_mem _ ha) b (List.mem_cons_of_mem _ hb)) n.2⟩
    obtain ⟨b, hb, e⟩ := List.mem_map.mp z
    rw [h a List.mem_cons_self b (List.mem_cons_of_mem _ hb) e.symm]
    exact hb
theorem inj_on {α β : Type} {f : α → β} : ∀ {l : List α}, (l.map f).Nodup → ∀ a ∈ l, ∀ b ∈ l, f a = f b → a = b
  | [], _, a, ha, _, _, _ => by cases ha
  | c :: l, n, a, ha, b, hb, e => by
    rw [List.map_cons, List.nodup_cons] at n
    rcases List.mem_cons.mp ha with h1 | h1
    · rcases List.mem_cons.mp hb with h2 | h2
      · rw [h1, h2]
      · exact absurd (List.mem_map.mpr ⟨b, h2, by rw [← e, h1]⟩) n.1
    · rcases List.mem_cons.mp hb with h2 | h2
      · exact absurd (List.mem_map.mpr ⟨a, h1, by rw [e, h2]⟩) n.1
      · exact inj_on n.2 a h1 b h2 e
theorem apart_grid {L : List PP} (h : ∀ p ∈ L, p ∈ grid) (hn : L.Nodup) : apart (L.map pv) = true := by
  unfold apart
  rw [Bool.and_eq_true]
  refine ⟨?_, decide_eq_true ?_⟩
  · rw [List.all_eq_true]
    intro v hv
    obtain ⟨p, _, rfl⟩ := List.mem_map.mp hv
    rfl
  · rw [List.map_map]
    exact nodup_on (f := vHash ∘ pv) (fun a ha b hb e => inj_on grid_apart a (h a ha) b (h b hb) e) hn
theorem gCopy_P {l : Fo} (h : ∀ p ∈ ks l, p ∈ grid) (hn : (ks l).Nodup) : gCopy (.sh (PV l)) = some (.oD true (encP.d (l.map fun p => (p.1, ov p.2)))) := by
  show (if (true = false ∨ apart ((encP.d (l.map fun p => (p.1, ov p.2))).map (·.1)) = true) then _ else none) = _
  rw [PV_k, if_pos (.inr (apart_grid h hn))]
theorem gCopy_K {m : List (PP × Val)} (h : ∀ p ∈ m.map (·.1), p ∈ grid) (hn : (m.map (·.1)).Nodup) : gCopy (.sh (KV2 m)) = some (.oD true (encP.d m)) := by
  show (if (true = false ∨ apart ((encP.d m).map (·.1)) = true) then _ else none) = _
  rw [encP_keys, if_pos (.inr (apart_grid h hn))]
theorem putD_P {ρ : En} {i : Nat} {A : List (PP × Val)} {k : PP} {v : Val} (e : ρ[i]? = some (some (.oD true (encP.d A)))) (hz : A.length ≤ 1000) (hk : k ∉ A.map (·.1)) : putD ρ i [] (pv k) v = some (ρ.set i (some (.oD true (encP.d (A ++ [(k, v)]))))) := by
  have e1 : ownAt ρ i [] = some (.oD true (encP.d A), .oD true (encP.d A)) := by simp [e]
  have e2 : vput (encP.d A) (pv k) (.inr [.inl k.1, .inl k.2]) v = encP.d (A ++ [(k, v)]) := by
    have := encP.put k v A
    rw [putL_new hk] at this
    exact this
  have hl : (encP.d A).length < sizeLine := by unfold Enc.d; rw [List.length_map, sizeLine_eq]; omega
  unfold putD
  rw [e1]
  show (if DK.isT (.inr [.inl k.1, .inl k.2]) = true ∧ (encP.d A).length < sizeLine then some (ρ.set i (some (OT.up [] (.oD true (encP.d A)) (.oD true (vput (encP.d A) (pv k) (.inr [.inl k.1, .inl k.2]) v))))) else none) = _
  rw [if_pos ⟨rfl, hl⟩, e2, s_up]
theorem with_run {l : Fo} (g1 : ∀ p ∈ ks l, p ∈ grid) (n1 : (ks l).Nodup) (hl : l.length ≤ 900) {m : List (PP × Val)} (g2 : ∀ p ∈ m.map (·.1), p ∈ grid) (n2 : (m.map (·.1)).Nodup) (hm : m.length ≤ 900) {p : PP} {o : Option PP} {v : Val} (h1 : p ∉ ks l) (h2 : p ∉ m.map (·.1)) :
    F_with_key [KV2 m, PV l, pv p, v, ov o] u = .ok (.sh (.tup [KV2 (m ++ [(p, v)]), PV (l ++ [(p, o)])])) u := by
  have e1 := gCopy_K g2 n2
  have e2 := gCopy_P g1 n1
  have p1 := putD_P (ρ := [some (.sh (KV2 m)), some (.sh (PV l)), some (.sh (pv p)), some (.sh v), some (.sh (ov o)), some (.oD true (encP.d m)), some (.oD true (encP.d (l.map fun p => (p.1, ov p.2))))]) (i := 5) (k := p) (v := v) rfl (by omega) h2
  have p2 := putD_P (ρ := [some (.sh (KV2 m)), some (.sh (PV l)), some (.sh (pv p)), some (.sh v), some (.sh (ov o)), some (.oD true (encP.d (m ++ [(p, v)]))), some (.oD true (encP.d (l.map fun p => (p.1, ov p.2))))]) (i := 6) (k := p) (v := ov o) rfl (by rw [List.length_map]; omega) (by rw [List.map_map]; exact h1)
  have h3 : 2 ≤ sizeLine := by rw [sizeLine_eq]; omega
  have e5 : (l.map fun p => (p.1, ov p.2)) ++ [(p, ov o)] = (l ++ [(p, o)]).map fun p => (p.1, ov p.2) := by rw [List.map_append]; rfl
  rw [e5] at p2
  simp only [List.set_cons_succ, List.set_cons_zero] at p1 p2
  unfold F_with_key cDef0 cDef c_with_key
  simp [enter, e1, e2, p1, p2, small, h3]
  refine ⟨rfl, ?_⟩
  unfold PV
  rw [List.map_append]
  rfl
/-! moved -/
theorem ks_mv {l : Fo} {p t : PP} : ks (mv l p t) = (ks l).map fun y => if y = p then t else y := by
  unfold ks mv
  rw [List.map_map, List.map_map]
  rfl
theorem nd_mv {l : Fo} {p t : PP} (hn : (ks l).Nodup) (ht : t ∉ ks l) : (ks (mv l p t)).Nodup := by
  rw [ks_mv]
  refine nodup_on (fun a ha b hb e => ?_) hn
  by_cases h1 : a = p
  · by_cases h2 : b = p
    · rw [h1, h2]
    · rw [if_pos h1, if_neg h2] at e
      exact absurd (e ▸ hb) ht
  · by_cases h2 : b = p
    · rw [if_neg h1, if_pos h2] at e
      exact absurd (e ▸ ha) ht
    · rw [if_neg h1, if_neg h2] at e
      exact e
theorem not_take {α : Type} {l : List α} {i : Nat} {x : α} (hn : l.Nodup) (h : l[i]? = some x) : x ∉ l.take i := by
  intro hx
  obtain ⟨j, hj⟩ := List.mem_iff_getElem?.mp hx
  have hji : j < i := by
    have := (List.getElem?_eq_some_iff.mp hj).1
    rw [List.length_take] at this
    omega
  rw [List.getElem?_take_of_lt hji] at hj
  obtain ⟨h1, e1⟩ := List.getElem?_eq_some_iff.mp hj
  obtain ⟨h2, e2⟩ := List.getElem?_eq_some_iff.mp h
  have := (List.getElem_inj hn).mp (e1.trans e2.symm)
  omega
theorem take_succ {α : Type} {l : List α} {i : Nat} {x : α} (h : l[i]? = some x) : l.take (i + 1) = l.take i ++ [x] := by
  rw [List.take_succ, h]; rfl
theorem moved_run {l : Fo} {n : Nat} {r : PP → Nat} (F : Fst l n r) (hl : l.length ≤ 900) {m : List (PP × Val)} (hm : (m.map (·.1)).Nodup) (hm2 : m.length ≤ 900) {p t : PP} {v : Val} (hv : getL m p = some v) (ht : t ∉ ks l) (ht2 : t ∉ m.map (·.1)) :
    F_moved [KV2 m, PV l, pv p, pv t] u = .ok (.sh (.tup [KV2 ((m.filter fun e => !decide (e.1 = p)) ++ [(t, v)]), PV (mv l p t)])) u := by
  have c2 := comp_keys (u := u) (ρ := [some (.sh (KV2 m)), some (.sh (PV l)), some (.sh (pv p)), some (.sh (pv t)), none, none, none]) (vs := [6]) (i := 6) (t := tst (e2 gNe (bP (pVar 6)) (bP (pVar 2))))
    (vf := eDg (pVar 0) (eP (pVar 6))) (L := m.map (·.1)) (fun y => !decide (y = p)) (fun y => (getL m y).getD .non) hm (by rw [List.length_map]; omega)
    (fun y _ => by simp [wipeE, gNe_pv]) (fun y hy _ => by
      obtain ⟨e, he, rfl⟩ := List.mem_map.mp hy
      have h3 := getL_of_mem hm (k := e.1) (v := e.2) he
      have e2 : dgO (.sh (KV2 m)) (pv e.1) = some (some e.2) := by rw [dgK, h3]
      simp [wipeE, e2, h3]) (fun v => by simp [wipeE])
  have f2 : (((m.map (·.1)).filter fun y => !decide (y = p)).map fun y => (y, (getL m y).getD .non)) = m.filter fun e => !decide (e.1 = p) :=
    filter_keys hm (fun y => !decide (y = p)) (fun y => (getL m y).getD .non) fun e he => by
      show (getL m e.1).getD .non = e.2
      rw [getL_of_mem hm (k := e.1) (v := e.2) he]; rfl
  rw [f2] at c2
  have k1 := keysI_P l
  have k2 := keysI_K m
  have e0 : dgO (.sh (KV2 m)) (pv p) = some (some v) := by rw [dgK, hv]
  have lf : (m.filter fun e => !decide (e.1 = p)).length ≤ m.length := List.length_filter_le _ _
  have nt : t ∉ (m.filter fun e => !decide (e.1 = p)).map (·.1) := fun z => by
    obtain ⟨e, he, rfl⟩ := List.mem_map.mp z
    exact ht2 (List.mem_map.mpr ⟨e, (List.mem_filter.mp he).1, rfl⟩)
  have p1 := putD_P (ρ := [some (.sh (KV2 m)), some (.sh (PV l)), some (.sh (pv p)), some (.sh (pv t)), some (.oD true (encP.d (m.filter fun e => !decide (e.1 = p)))), none, none]) (i := 4) (k := t) (v := v) rfl (by omega) nt
  -- the row
  generalize hM : (m.filter fun e => !decide (e.1 = p)) ++ [(t, v)] = M at p1 ⊢
  have nd2 := nd_mv (p := p) F.nd ht
  obtain ⟨ρ2, s2, row, x6, hρ⟩ := forS_inv (W := W0) (p := puN 6) (b := cPut 5 [] (eIf (tst (e2 gEq (bP (pVar 6)) (bP (pVar 2)))) (eP (pVar 3)) (eP (pVar 6))) (eIf (tst (e2 gEq (eDg (pVar 1) (eP (pVar 6))) (bP (pVar 2)))) (eP (pVar 3)) (eDg (pVar 1) (eP (pVar 6)))))
    (fun i ρ s => ∃ x6, u = s ∧ ρ = [some (.sh (KV2 m)), some (.sh (PV l)), some (.sh (pv p)), some (.sh (pv t)), some (.oD true (encP.d M)), some (.oD true (encP.d (((mv l p t).take i).map fun e => (e.1, ov e.2)))), x6])
    (xs := (ks l).map pv) (n := 0) (ρ := [some (.sh (KV2 m)), some (.sh (PV l)), some (.sh (pv p)), some (.sh (pv t)), some (.oD true (encP.d M)), some (.oD true []), none]) (s := u) ⟨none, rfl, by simp [Enc.d]⟩ (by
      rintro i x ρ s hx ⟨x6, rfl, rfl⟩
      rw [Nat.zero_add]
      rw [List.getElem?_map] at hx
      cases hy : (ks l)[i]? with
      | none => rw [hy] at hx; cases hx
      | some y =>
        rw [hy] at hx; cases hx
        have hy0 := hy
        unfold ks at hy0
        rw [List.getElem?_map] at hy0
        cases he : l[i]? with
        | none => rw [he] at hy0; cases hy0
        | some e =>
          rw [he] at hy0
          have hy0 : e.1 = y := by simpa using hy0
          subst hy0
          have hel : e ∈ l := List.mem_of_getElem? he
          have h4 := getL_of_mem F.nd (k := e.1) (v := e.2) hel
          have e2 : dgO (.sh (PV l)) (pv e.1) = some (some (ov e.2)) := by rw [dgP, h4]; rfl
          have e3 : gEq (ov e.2) (pv p) = some (.bl (decide (e.2 = some p))) := gEq_ov e.2 (some p)
          have hmv : (mv l p t)[i]? = some (if e.1 = p then t else e.1, if e.2 = some p then some t else e.2) := by
            unfold mv; rw [List.getElem?_map, he]; rfl
          have nk : (if e.1 = p then t else e.1) ∉ (((mv l p t).take i).map fun e => (e.1, ov e.2)).map (·.1) := by
            rw [List.map_map]
            have h5 : (ks (mv l p t))[i]? = some (if e.1 = p then t else e.1) := by unfold ks; rw [List.getElem?_map, hmv]; rfl
            have h6 := not_take nd2 h5
            unfold ks at h6
            rw [← List.map_take] at h6
            exact h6
          have p2 := putD_P (ρ := [some (.sh (KV2 m)), some (.sh (PV l)), some (.sh (pv p)), some (.sh (pv t)), some (.oD true (encP.d M)), some (.oD true (encP.d (((mv l p t).take i).map fun e => (e.1, ov e.2)))), some (.sh (pv e.1))]) (i := 5) (k := if e.1 = p then t else e.1) (v := ov (if e.2 = some p then some t else e.2)) rfl (by
            rw [List.length_map, List.length_take]; unfold mv; rw [List.length_map]; omega) nk
          have e5 : (((mv l p t).take i).map fun e => (e.1, ov e.2)) ++ [(if e.1 = p then t else e.1, ov (if e.2 = some p then some t else e.2))] = ((mv l p t).take (i + 1)).map fun e => (e.1, ov e.2) := by
            rw [take_succ hmv, List.map_append]; rfl
          rw [e5] at p2
          refine ⟨_, rfl, _, u, .inl ?_, some (.sh (pv e.1)), rfl, rfl⟩
          have o1 : ov (some t) = pv t := rfl
          have vv : eIf (tst (VL.e2 gEq (eDg (pVar 1) (eP (pVar 6))) (bP (pVar 2)))) (eP (pVar 3)) (eDg (pVar 1) (eP (pVar 6))) [some (.sh (KV2 m)), some (.sh (PV l)), some (.sh (pv p)), some (.sh (pv t)), some (.oD true (encP.d M)), some (.oD true (encP.d (((mv l p t).take i).map fun e => (e.1, ov e.2)))), some (.sh (pv e.1))] u = (.ok (ov (if e.2 = some p then some t else e.2)) u : R W0.S Val) := by
            by_cases q2 : e.2 = some p
            · rw [q2] at e2 e3
              simp [e2, e3, q2, o1]
            · simp [e2, e3, q2]
          have kk : eIf (tst (VL.e2 gEq (bP (pVar 6)) (bP (pVar 2)))) (eP (pVar 3)) (eP (pVar 6)) [some (.sh (KV2 m)), some (.sh (PV l)), some (.sh (pv p)), some (.sh (pv t)), some (.oD true (encP.d M)), some (.oD true (encP.d (((mv l p t).take i).map fun e => (e.1, ov e.2)))), some (.sh (pv e.1))] u = (.ok (pv (if e.1 = p then t else e.1)) u : R W0.S Val) := by
            by_cases q1 : e.1 = p
            · rw [if_pos q1, q1]
              simp [gEq_pv]
            · rw [if_neg q1]
              simp [gEq_pv, q1]
          rw [s_put]
          simp only [List.set_cons_succ, List.set_cons_zero] at p2 ⊢
          rw [vv, s_go, kk]
          simp [-List.map_take, p2])
  obtain ⟨rfl, rfl⟩ := hρ
  have e9 : ((mv l p t).take (0 + ((ks l).map pv).length)) = mv l p t := by
    apply List.take_of_length_le
    unfold mv ks
    simp
  rw [e9] at row
  have h3 : 2 ≤ sizeLine := by rw [sizeLine_eq]; omega
  generalize hL : (m.map (·.1)).map pv = L at k2 c2
  generalize hL2 : (ks l).map pv = L2 at k1 row
  simp only [List.set_cons_succ, List.set_cons_zero] at p1
  unfold F_moved cDef0 cDef c_moved
  simp [enter, k2, c2, e0, p1, k1, row, small, h3]
  exact ⟨rfl, rfl⟩
end K04

/-! K04g: lists of pairs compared; what _law_right answers. -/
namespace K04
open PySem PySem.Spec PyProof.Rows L2 VL
variable {u : W0.S}
theorem lay_pvs : ∀ l : List PP, PyData.plainAll (Val.toDs (l.map pv)) = true
  | [] => rfl
  | p :: l => by
    show PyData.plainAll ((pv p).toD :: Val.toDs (l.map pv)) = true
    simp only [PyData.plainAll, lay_pvs l, Bool.and_true]
    rfl
theorem depth_pvs : ∀ l : List PP, PyData.depthAll (Val.toDs (l.map pv)) ≤ 5
  | [] => by show (0 : Nat) ≤ 5; omega
  | p :: l => by
    show PyData.depthAll ((pv p).toD :: Val.toDs (l.map pv)) ≤ 5
    have := depth_pvs l
    have h2 : (pv p).toD.depth ≤ 5 := by
      show PyData.depth (.tuple [.int _, .int _]) ≤ 5
      simp only [PyData.depth, PyData.depthAll]
      omega
    simp only [PyData.depthAll]
    omega
theorem dfree_pvs (l : List PP) : dfree (.lst (l.map pv)) = true := by
  unfold dfree
  rw [Bool.and_eq_true]
  exact ⟨pures_pv l, by show PyData.plain (.list (Val.toDs (l.map pv))) = true; simp only [PyData.plain, lay_pvs l]⟩
theorem dep_pvs (l : List PP) : dep64 (.lst (l.map pv)) = true := by
  unfold dep64
  rw [decide_eq_true_iff]
  show PyData.depth (.list (Val.toDs (l.map pv))) ≤ 50
  have := depth_pvs l
  simp only [PyData.depth]
  omega
theorem eqv_pvs : ∀ a b : List PP, PyData.eqv (.list (Val.toDs (a.map pv))) (.list (Val.toDs (b.map pv))) = decide (a = b)
  | [], [] => rfl
  | [], _ :: _ => by
    rw [decide_eq_false (by simp)]; rfl
  | _ :: _, [] => by
    rw [decide_eq_false (by simp)]; rfl
  | a :: l, b :: m => by
    have ih := eqv_pvs l m
    show PyData.eqv (.list ((pv a).toD :: Val.toDs (l.map pv))) (.list ((pv b).toD :: Val.toDs (m.map pv))) = _
    simp only [PyData.eqv, PyData.eqvAll, List.length_cons] at ih ⊢
    rw [eqv_pv]
    rw [Bool.eq_iff_iff] at ih ⊢
    simp only [Bool.and_eq_true, decide_eq_true_eq, List.cons.injEq] at ih ⊢
    rw [← ih]
theorem gEq_pvs (a b : List PP) : gEq (.lst (a.map pv)) (.lst (b.map pv)) = some (.bl (decide (a = b))) := by
  have h : (dfree (.lst (a.map pv)) && dfree (.lst (b.map pv))) = true := by rw [dfree_pvs, dfree_pvs]; rfl
  unfold gEq
  rw [show vok (.lst (a.map pv)) (.lst (b.map pv)) = true by unfold vok; rw [h]; rfl, dep_pvs, veq_df h]
  rw [show PyData.eqv (Val.lst (a.map pv)).toD (Val.lst (b.map pv)).toD = decide (a = b) from eqv_pvs a b]
  rfl
theorem gNe_pvs (a b : List PP) : gNe (.lst (a.map pv)) (.lst (b.map pv)) = some (.bl (!decide (a = b))) := by
  have h : (dfree (.lst (a.map pv)) && dfree (.lst (b.map pv))) = true := by rw [dfree_pvs, dfree_pvs]; rfl
  unfold gNe
  rw [show vok (.lst (a.map pv)) (.lst (b.map pv)) = true by unfold vok; rw [h]; rfl, dep_pvs, h, veq_df h]
  rw [show PyData.eqv (Val.lst (a.map pv)).toD (Val.lst (b.map pv)).toD = decide (a = b) from eqv_pvs a b]
  rfl
theorem dfree_pv (p : PP) : dfree (pv p) = true := dfree_ov (some p)
theorem gIn_pvs (p : PP) (l : List PP) : gIn false (pv p) (.lst (l.map pv)) = some (.bl (decide (p ∈ l))) := by
  unfold gIn inL
  rw [dfree_pv, dfree_pvs]
  show (some ((l.map pv).any fun z => PyData.eqv z.toD (pv p).toD)).map _ = _
  rw [List.any_map]
  have : (l.any ((fun z : Val => PyData.eqv z.toD (pv p).toD) ∘ pv)) = decide (p ∈ l) := by
    rw [Bool.eq_iff_iff, List.any_eq_true]
    simp only [Function.comp, eqv_pv, decide_eq_true_eq]
    constructor
    · rintro ⟨x, h, rfl⟩; exact h
    · intro h; exact ⟨p, h, rfl⟩
  rw [this]
  simp
theorem below_run {l : Fo} {n : Nat} {r : PP → Nat} (F : Fst l n r) (hn : n < 900) (hl : l.length ≤ 900) {p : PP} {a b : Option OT} :
    compS [some a0, some (.sh (PV l)), some (.sh (pv p)), a, b] [4] (puN 4) (tst (e2 (gIn false) (bP (pVar 2)) (eF (fCall 2 F__law_up (eCons (eP (pVar 1)) (eCons (eP (pVar 4)) eNil)))))) (eP (pVar 4)) ((ks l).map pv) [] u = .ok (.oL ((desc l p).map pv)) u := by
  have e1 := compS_map (W := W0) (s := u) (ρ := [some a0, some (.sh (PV l)), some (.sh (pv p)), a, b]) (vs := [4]) (i := 4) (t := tst (e2 (gIn false) (bP (pVar 2)) (eF (fCall 2 F__law_up (eCons (eP (pVar 1)) (eCons (eP (pVar 4)) eNil)))))) (f := eP (pVar 4))
    (fun v => decide (p ∈ up l (unpv v))) (fun v => v) (xs := (ks l).map pv) (acc := []) (fun x hx => by
      obtain ⟨y, hy, rfl⟩ := List.mem_map.mp hx
      have h1 := up_run (u := u) F hn hy
      have h2 := gIn_pvs p (up l y)
      simp [wipeE, h1, h2]; congr) (fun x _ _ => by simp [wipeE]) (by
        rw [List.length_map, sizeLine_eq]; unfold ks; rw [List.length_map]; simp; omega)
  rw [filter_pv] at e1
  simp only [List.nil_append, unpv_pv] at e1
  exact e1
theorem kids2_run {l : Fo} {n : Nat} {r : PP → Nat} (F : Fst l n r) (hl : l.length ≤ 900) {p : PP} {a b : Option OT} :
    compS [some a0, some (.sh (PV l)), some (.sh (pv p)), a, b] [4] (puN 4) (tst (e2 gEq (eDg (pVar 1) (eP (pVar 4))) (bP (pVar 2)))) (eP (pVar 4)) ((ks l).map pv) [] u = .ok (.oL (((ks l).filter fun y => decide (getL l y = some (some p))).map pv)) u := by
  have e1 := compS_map (W := W0) (s := u) (ρ := [some a0, some (.sh (PV l)), some (.sh (pv p)), a, b]) (vs := [4]) (i := 4) (t := tst (e2 gEq (eDg (pVar 1) (eP (pVar 4))) (bP (pVar 2)))) (f := eP (pVar 4))
    (fun v => decide (getL l (unpv v) = some (some p))) (fun v => v) (xs := (ks l).map pv) (acc := []) (fun x hx => by
      obtain ⟨y, hy, rfl⟩ := List.mem_map.mp hx
      obtain ⟨o, h3, h4⟩ := F.mem hy
      have e2 : dgO (.sh (PV l)) (pv y) = some (some (ov o)) := by rw [dgP, h4]; rfl
      have e3 : gEq (ov o) (pv p) = some (.bl (decide (o = some p))) := gEq_ov o (some p)
      simp [wipeE, e2, e3, h4]) (fun x _ _ => by simp [wipeE]) (by
        rw [List.length_map, sizeLine_eq]; unfold ks; rw [List.length_map]; simp; omega)
  rw [filter_pv] at e1
  simp only [List.nil_append, unpv_pv] at e1
  exact e1
theorem sorted_filter (P : PP → Bool) (l : List PP) : sortP (l.filter P) = (sortP l).filter P := by
  apply List.Perm.eq_of_pairwise (le := fun a b => leP a b = true)
  · intro a b _ _ h1 h2; exact leP_anti a b h1 h2
  · exact List.pairwise_mergeSort leP_trans leP_total _
  · exact (List.pairwise_mergeSort leP_trans leP_total l).filter _
  · exact (sortP_perm _).trans ((sortP_perm l).filter P).symm

theorem right_run {l : Fo} {n : Nat} {r : PP → Nat} (F : Fst l n r) (hn : n < 900) (hl : l.length ≤ 900) {m : List (PP × Val)} (hp : (m.map (·.1)).Perm (ks l)) : F__law_right [KV2 m, PV l] u = .ok (.sh (.bl true)) u := by
  have k1 := keysI_P l
  have sd : sortP (m.map (·.1)) = sortP (ks l) := sortP_eq hp
  have hm : m.length ≤ 900 := by
    have := hp.length_eq
    unfold ks at this
    simp at this
    omega
  have g1 := gSortD_K (m := m) (by omega)
  have g2 := gSortD_P (l := l) (by omega)
  have g3 := gEq_pvs (sortP (ks l)) (sortP (ks l))
  obtain ⟨ρ2, s2, row, rfl, x2, x3, x4, hρ⟩ := forS_inv (W := W0) (p := puN 2) (b := (cSeq (cSet 3 (eF (fCl gSortL (pE (eF (fLc [4] (iOf OT.keysI (pE (eP (pVar 1)))) (puN 4) (tst (e2 (gIn false) (bP (pVar 2)) (eF (fCall 2 F__law_up (eCons (eP (pVar 1)) (eCons (eP (pVar 4)) eNil)))))) (eP (pVar 4)))))))) (cSeq (cIf (tOrS (tst (e2 gNe (eF (fCall 2 F_came_of (eCons (eP (pVar 1)) (eCons (eP (pVar 2)) eNil)))) (bP (pVar 3)))) (tst (e2 gNe (eF (fCall 2 F_ancestors_of (eCons (eP (pVar 1)) (eCons (eP (pVar 2)) eNil)))) (eF (fCall 2 F__law_up (eCons (eP (pVar 1)) (eCons (eP (pVar 2)) eNil))))))) (cRet (eC (.bl false))) cNx) (cIf (tst (e2 gNe (eF (fCall 2 F_children_of (eCons (eP (pVar 1)) (eCons (eP (pVar 2)) eNil)))) (eF (fCl gSortL (pE (eF (fLc [4] (iOf OT.keysI (pE (eP (pVar 1)))) (puN 4) (tst (e2 gEq (eDg (pVar 1) (eP (pVar 4))) (bP (pVar 2)))) (eP (pVar 4))))))))) (cRet (eC (.bl false))) cNx))))
    (fun i ρ s => u = s ∧ ∃ x2 x3 x4, ρ = [some (.sh (KV2 m)), some (.sh (PV l)), x2, x3, x4])
    (xs := (ks l).map pv) (n := 0) (ρ := [some (.sh (KV2 m)), some (.sh (PV l)), none, none, none]) (s := u) ⟨rfl, _, _, _, rfl⟩ (by
      rintro i x ρ s hx ⟨rfl, x2, x3, x4, rfl⟩
      obtain ⟨y, hy, rfl⟩ := List.mem_map.mp (List.mem_of_getElem? hx)
      have b1 := below_run (u := u) (a0 := .sh (KV2 m)) F hn hl (p := y) (a := x3) (b := x4)
      have ld : (desc l y).length ≤ sizeLine := by
        have : (desc l y).length ≤ (ks l).length := List.length_filter_le _ _
        unfold ks at this
        rw [List.length_map] at this
        rw [sizeLine_eq]; omega
      have b2 := sortL_pv ld
      have b4 := kids2_run (u := u) (a0 := .sh (KV2 m)) F hl (p := y) (a := some (.sh (.lst ((sortP (desc l y)).map pv)))) (b := x4)
      generalize hK : (ks l).filter (fun z => decide (getL l z = some (some y))) = Kd at b4
      have ld2 : Kd.length ≤ sizeLine := by
        have : Kd.length ≤ (ks l).length := by rw [← hK]; exact List.length_filter_le _ _
        unfold ks at this
        rw [List.length_map] at this
        rw [sizeLine_eq]; omega
      have b5 := sortL_pv ld2
      have b6 : sortP Kd = kids l y := by rw [← hK, sorted_filter]; rfl
      rw [b6] at b5
      have c1 := came_run (u := u) F hn (by omega) (p := y)
      have c2 := anc_run (u := u) F hn hy
      have c3 := up_run (u := u) F hn hy
      have c4 := kids_run (u := u) F (by omega) (p := y)
      have n1 := gNe_pvs (sortP (desc l y)) (sortP (desc l y))
      have n2 := gNe_pvs (up l y) (up l y)
      have n3 := gNe_pvs (kids l y) (kids l y)
      rw [decide_eq_true rfl] at n1 n2 n3
      have s1 : gSortL (.sh (.lst ((desc l y).map pv))) = some (.oL ((sortP (desc l y)).map pv)) := by show (sortL _).map OT.oL = _; rw [b2]; rfl
      have s2 : gSortL (.sh (.lst (Kd.map pv))) = some (.oL ((kids l y).map pv)) := by show (sortL _).map OT.oL = _; rw [b5]; rfl
      clear b2 b5 hx hK b6
      refine ⟨_, rfl, [some (.sh (KV2 m)), some (.sh (PV l)), some (.sh (pv y)), some (.sh (.lst ((sortP (desc l y)).map pv))), x4], u, .inl ?_, rfl, _, _, _, rfl⟩
      generalize hL2 : (ks l).map pv = L2 at k1 b1 b4
      simp [k1, b1, s1, c1, n1, c2, c3, n2, c4, b4, s2, n3])
  subst hρ
  generalize hL2 : (ks l).map pv = L2 at k1 row
  rw [sd] at g1
  unfold F__law_right cDef0 cDef c__law_right
  simp [enter, k1, row, g1, g2, g3]
end K04

/-! K04h: forests changed, and what lies above. -/
namespace K04
open PySem PySem.Spec PyProof.Rows L2 VL
variable {l : Fo} {n : Nat} {r : PP → Nat} {p t : PP} {o : Option PP}
theorem getL_app {κ : Type} [DecidableEq κ] {α : Type} {l : List (κ × α)} {p : κ} {o : α} (w : κ) (h : p ∉ l.map (·.1)) : getL (l ++ [(p, o)]) w = if w = p then some o else getL l w := by
  by_cases e : w = p
  · subst e
    rw [if_pos rfl]
    unfold getL
    rw [List.find?_append]
    have : (l.find? fun q => decide (q.1 = w)) = none := by
      rw [List.find?_eq_none]
      intro x hx h2
      exact h (List.mem_map.mpr ⟨x, hx, of_decide_eq_true h2⟩)
    rw [this]
    simp
  · rw [if_neg e]
    unfold getL
    rw [List.find?_append]
    have : ([(p, o)].find? fun q => decide (q.1 = w)) = none := by
      simp [List.find?, Ne.symm e]
    rw [this]
    simp
theorem ks_app : ks (l ++ [(p, o)]) = ks l ++ [p] := by unfold ks; rw [List.map_append]; rfl
theorem Fst_app (F : Fst l n r) (hp : p ∉ ks l) (ho : ∀ q, o = some q → q ∈ ks l) : Fst (l ++ [(p, o)]) (n + 1) (fun x => if x = p then n + 1 else r x) := by
  refine ⟨?_, fun a q h => ?_, fun a h => ?_⟩
  · rw [ks_app]
    exact List.nodup_append.mpr ⟨F.nd, by simp, fun a ha b hb => by
      rw [List.mem_singleton] at hb; subst hb; exact fun e => hp (e ▸ ha)⟩
  · rw [ks_app]
    rcases List.mem_append.mp h with h | h
    · obtain ⟨h1, h2⟩ := F.cl a q h
      have ha : a ∈ ks l := List.mem_map.mpr ⟨_, h, rfl⟩
      refine ⟨List.mem_append_left _ h1, ?_⟩
      show (if q = p then n + 1 else r q) < if a = p then n + 1 else r a
      have z1 : q ≠ p := fun e => hp (e ▸ h1)
      have z2 : a ≠ p := fun e => hp (e ▸ ha)
      rw [if_neg z1, if_neg z2]
      exact h2
    · rw [List.mem_singleton] at h
      cases h
      have h1 := ho q rfl
      refine ⟨List.mem_append_left _ h1, ?_⟩
      show (if q = p then n + 1 else r q) < if p = p then n + 1 else r p
      have z1 : q ≠ p := fun e => hp (e ▸ h1)
      rw [if_neg z1, if_pos rfl]
      have := F.bd q h1
      omega
  · rw [ks_app] at h
    show (if a = p then n + 1 else r a) ≤ n + 1
    split
    · omega
    · rename_i h2
      rcases List.mem_append.mp h with h | h
      · have := F.bd a h; omega
      · exact absurd (List.mem_singleton.mp h) h2
theorem par_app (hp : p ∉ ks l) (w : PP) : par (l ++ [(p, o)]) w = if w = p then o else par l w := by
  unfold par
  rw [getL_app w hp]
  split <;> rfl
theorem up_app (F : Fst l n r) (hn : n + 1 < 900) (hp : p ∉ ks l) (ho : ∀ q, o = some q → q ∈ ks l) : ∀ w, w ∈ ks l → up (l ++ [(p, o)]) w = up l w := by
  have F2 := Fst_app F hp ho
  refine F.ind fun w ih hw => ?_
  have z1 : w ≠ p := fun e => hp (e ▸ hw)
  rw [F2.up_eq hn, F.up_eq (by omega), par_app hp, if_neg z1]
  cases e : par l w with
  | none => rfl
  | some q =>
    show q :: _ = q :: _
    rw [ih q e (F.par_cl e).1]
def upO (l : Fo) : Option PP → List PP
  | none => []
  | some q => q :: up l q
theorem up_app_new (F : Fst l n r) (hn : n + 1 < 900) (hp : p ∉ ks l) (ho : ∀ q, o = some q → q ∈ ks l) : up (l ++ [(p, o)]) p = upO l o := by
  have F2 := Fst_app F hp ho
  rw [F2.up_eq hn, par_app hp, if_pos rfl]
  cases o with
  | none => rfl
  | some q =>
    show q :: _ = q :: _
    rw [up_app F hn hp ho q (ho q rfl)]
theorem ks_del : ks (del l p) = (ks l).filter fun y => !decide (y = p) := by
  unfold ks del
  rw [List.map_map, List.filter_map]
  rfl
theorem getL_del (F : Fst l n r) {w : PP} (hw : w ≠ p) : getL (del l p) w = (getL l w).map fun o => if o = some p then par l p else o := by
  by_cases h : w ∈ ks l
  · obtain ⟨o, h1, h2⟩ := F.mem h
    rw [h2]
    have nd : ((del l p).map (·.1)).Nodup := by
      have : ks (del l p) = _ := ks_del
      unfold ks at this
      rw [this]
      exact List.Pairwise.filter _ F.nd
    refine getL_of_mem nd ?_
    unfold del
    exact List.mem_map.mpr ⟨(w, o), List.mem_filter.mpr ⟨h1, by simp [hw]⟩, rfl⟩
  · have e1 : getL l w = none := getL_none.mpr h
    rw [e1]
    refine getL_none.mpr fun h2 => h ?_
    have : ks (del l p) = _ := ks_del
    unfold ks at this
    rw [this] at h2
    exact (List.mem_filter.mp h2).1
theorem Fst_del (F : Fst l n r) : Fst (del l p) n r := by
  refine ⟨?_, fun a q h => ?_, fun a h => ?_⟩
  · rw [ks_del]; exact List.Pairwise.filter _ F.nd
  · unfold del at h
    obtain ⟨e, he, h2⟩ := List.mem_map.mp h
    obtain ⟨he, hne⟩ := List.mem_filter.mp he
    have hne : e.1 ≠ p := by simpa using hne
    have hea : (a : PP) = e.1 := (congrArg Prod.fst h2).symm
    have hq : (if e.2 = some p then par l p else e.2) = some q := congrArg Prod.snd h2
    rw [ks_del, List.mem_filter]
    by_cases hp : e.2 = some p
    · rw [if_pos hp] at hq
      obtain ⟨h3, h4, h5⟩ := F.par_cl hq
      have h6 := F.cl e.1 p (by rw [← hp]; exact he)
      refine ⟨⟨h3, ?_⟩, by rw [hea]; omega⟩
      have : q ≠ p := fun z => by rw [z] at h4; omega
      simpa using this
    · rw [if_neg hp] at hq
      have h6 := F.cl e.1 q (by rw [← hq]; exact he)
      refine ⟨⟨h6.1, ?_⟩, by rw [hea]; exact h6.2⟩
      have : q ≠ p := fun z => by rw [z] at hq; exact hp hq
      simpa using this
  · rw [ks_del] at h
    exact F.bd a (List.mem_filter.mp h).1
theorem par_del (F : Fst l n r) {w : PP} (hw : w ≠ p) : par (del l p) w = if par l w = some p then par l p else par l w := by
  unfold par
  rw [getL_del F hw]
  cases e : getL l w with
  | none => simp
  | some o => simp [par]
theorem up_del (F : Fst l n r) (hn : n < 900) : ∀ w, w ≠ p → up (del l p) w = (up l w).filter fun x => !decide (x = p) := by
  have F2 := Fst_del (p := p) F
  have above : (up l p).filter (fun x => !decide (x = p)) = up l p := by
    rw [List.filter_eq_self]
    intro x hx
    have := (F.up_mem hn p x hx).2
    have : x ≠ p := fun z => by rw [z] at this; omega
    simpa using this
  refine F.ind fun w ih hw => ?_
  rw [F2.up_eq hn, F.up_eq hn (p := w), par_del F hw]
  cases e : par l w with
  | none => simp
  | some q =>
    by_cases hq : q = p
    · subst hq
      rw [if_pos rfl]
      show _ = List.filter _ (q :: up l q)
      rw [List.filter_cons, if_neg (by simp), above, F.up_eq hn (p := q)]
      cases e2 : par l q with
      | none => rfl
      | some q2 =>
        show q2 :: _ = q2 :: _
        congr 1
        -- above q2 nothing is changed
        have h2 := F.par_cl e2
        have key : ∀ w, r w < r q → up (del l q) w = up l w := by
          refine F.ind fun w ih hr => ?_
          have hwq : w ≠ q := fun z => by rw [z] at hr; omega
          rw [F2.up_eq hn, F.up_eq hn (p := w), par_del F hwq]
          cases e3 : par l w with
          | none => rfl
          | some q3 =>
            have h3 := F.par_cl e3
            rw [if_neg fun z => by have := Option.some.inj z; subst this; omega]
            show q3 :: _ = q3 :: _
            rw [ih q3 e3 (by omega)]
        exact key q2 h2.2.1
    · rw [if_neg fun z => hq (Option.some.inj z)]
      show q :: _ = List.filter _ (q :: _)
      rw [List.filter_cons, if_pos (by simpa using hq), ih q e hq]
def sw (p t x : PP) : PP := if x = p then t else x
theorem sw_inj (ht : t ∉ ks l) {a b : PP} (ha : a ∈ ks l) (hb : b ∈ ks l) (e : sw p t a = sw p t b) : a = b := by
  unfold sw at e
  by_cases h1 : a = p
  · by_cases h2 : b = p
    · rw [h1, h2]
    · rw [if_pos h1, if_neg h2] at e
      exact absurd (e ▸ hb) ht
  · by_cases h2 : b = p
    · rw [if_neg h1, if_pos h2] at e
      exact absurd (e ▸ ha) ht
    · rw [if_neg h1, if_neg h2] at e
      exact e
theorem mv_eq : mv l p t = l.map fun e => (sw p t e.1, e.2.map (sw p t)) := by
  unfold mv
  apply List.map_congr_left
  intro e _
  show (_, _) = (_, _)
  congr 1
  cases e.2 with
  | none => rfl
  | some q =>
    by_cases h : q = p
    · subst h; simp [sw]
    · rw [if_neg fun z => h (Option.some.inj z)]
      simp [sw, h]
theorem ks_mv2 : ks (mv l p t) = (ks l).map (sw p t) := ks_mv
theorem Fst_mv (F : Fst l n r) (hp : p ∈ ks l) (ht : t ∉ ks l) : Fst (mv l p t) n (fun x => if x = t then r p else r x) := by
  have rs : ∀ x ∈ ks l, (if sw p t x = t then r p else r (sw p t x)) = r x := fun x hx => by
    unfold sw
    by_cases h : x = p
    · rw [if_pos h, if_pos rfl, h]
    · have z1 : x ≠ t := fun z => ht (z ▸ hx)
      rw [if_neg h, if_neg z1]
  refine ⟨nd_mv F.nd ht, fun a q h => ?_, fun a h => ?_⟩
  · rw [mv_eq] at h
    obtain ⟨e, he, h2⟩ := List.mem_map.mp h
    have hea : (a : PP) = sw p t e.1 := (congrArg Prod.fst h2).symm
    have hq : e.2.map (sw p t) = some q := congrArg Prod.snd h2
    obtain ⟨q0, e0, rfl⟩ := Option.map_eq_some_iff.mp hq
    have h6 := F.cl e.1 q0 (by rw [← e0]; exact he)
    subst hea
    refine ⟨by rw [ks_mv2]; exact List.mem_map.mpr ⟨q0, h6.1, rfl⟩, ?_⟩
    show (if _ = t then r p else r _) < (if _ = t then r p else r _)
    rw [rs q0 h6.1, rs e.1 (List.mem_map.mpr ⟨_, he, rfl⟩)]
    exact h6.2
  · rw [ks_mv2] at h
    obtain ⟨x, hx, rfl⟩ := List.mem_map.mp h
    show (if _ = t then r p else r _) ≤ n
    rw [rs x hx]
    exact F.bd x hx
theorem par_mv (F : Fst l n r) (ht : t ∉ ks l) {w : PP} (hw : w ∈ ks l) : par (mv l p t) (sw p t w) = (par l w).map (sw p t) := by
  obtain ⟨o, h1, h2⟩ := F.mem hw
  unfold par
  rw [h2]
  have : getL (mv l p t) (sw p t w) = some (o.map (sw p t)) := by
    refine getL_of_mem (nd_mv F.nd ht) ?_
    rw [mv_eq]
    exact List.mem_map.mpr ⟨(w, o), h1, rfl⟩
  rw [this]
  rfl
theorem up_mv (F : Fst l n r) (hn : n < 900) (hp : p ∈ ks l) (ht : t ∉ ks l) : ∀ w, w ∈ ks l → up (mv l p t) (sw p t w) = (up l w).map (sw p t) := by
  have F2 := Fst_mv F hp ht
  refine F.ind fun w ih hw => ?_
  rw [F2.up_eq hn, F.up_eq hn (p := w), par_mv F ht hw]
  cases e : par l w with
  | none => rfl
  | some q =>
    show sw p t q :: _ = sw p t q :: _
    rw [ih q e (F.par_cl e).1]
end K04

/-! K04i: the state's dicts compared and shown. -/
namespace K04
open PySem PySem.Spec PyProof.Rows L2 VL
def good (v : Val) : Bool := dfree v && v.own && v.noL && v.toD.showable && v.toD.leavesShort 13 && decide (v.toD.weight ≤ 100) && decide (v.toD.depth ≤ 5)
structure Good (v : Val) : Prop where
  df : dfree v = true
  ow : v.own = true
  nl : v.noL = true
  sh : v.toD.showable = true
  ls : v.toD.leavesShort 13 = true
  wt : v.toD.weight ≤ 100
  dp : v.toD.depth ≤ 5
theorem good_of {v : Val} (h : good v = true) : Good v := by
  unfold good at h
  simp only [Bool.and_eq_true, decide_eq_true_eq] at h
  obtain ⟨⟨⟨⟨⟨⟨h1, h2⟩, h3⟩, h4⟩, h5⟩, h6⟩, h7⟩ := h
  exact ⟨h1, h2, h3, h4, h5, h6, h7⟩
theorem Good.pu {v : Val} (g : Good v) : v.pure = true := by
  have := g.df
  unfold dfree at this
  rw [Bool.and_eq_true] at this
  exact this.1
theorem Good.eqv {v : Val} (g : Good v) : veq v v = true := by
  rw [veq_df (by rw [g.df]; rfl)]
  have := g.df
  unfold dfree at this
  rw [Bool.and_eq_true] at this
  exact PySem.SeqAt.eqv_refl_plain _ this.2
theorem Good.ok {v w : Val} (g : Good v) (g2 : Good w) : vok v w = true := by
  unfold vok
  rw [g.df, g2.df]; rfl
theorem good_none : Good .non := good_of (by decide +kernel)
theorem good_pv {p : PP} (h : p ∈ grid) : Good (pv p) := by
  have : (grid.all fun p => good (pv p)) = true := by decide +kernel
  rw [List.all_eq_true] at this
  exact good_of (this p h)
def page (t : Nat) : Val := .tup [.str "page", .int t, .str "r", .int 0]
theorem good_page {t : Nat} (h : t < 23) : Good (page t) := by
  have : ((List.range 23).all fun t => good (page t)) = true := by decide +kernel
  rw [List.all_eq_true] at this
  exact good_of (this t (List.mem_range.mpr h))
/-- a dict of the state -/
def GD (a : List (PP × Val)) : Prop := a.length ≤ 100 ∧ ∀ e ∈ a, e.1 ∈ grid ∧ Good e.2
theorem enc_cons (e : PP × Val) (a : List (PP × Val)) : encP.d (e :: a) = (pv e.1, e.2) :: encP.d a := rfl
theorem gd_own : ∀ {a : List (PP × Val)}, (∀ e ∈ a, e.1 ∈ grid ∧ Good e.2) → Val.ownp (encP.d a) = true
  | [], _ => rfl
  | e :: a, h => by
    rw [enc_cons]
    show (e.2.own && Val.ownp (encP.d a)) = true
    rw [(h e List.mem_cons_self).2.ow, gd_own fun x hx => h x (List.mem_cons_of_mem _ hx)]; rfl
theorem gd_pure : ∀ {a : List (PP × Val)}, (∀ e ∈ a, e.1 ∈ grid ∧ Good e.2) → Val.purep (encP.d a) = true
  | [], _ => rfl
  | e :: a, h => by
    rw [enc_cons]
    show (e.2.pure && Val.purep (encP.d a)) = true
    rw [(h e List.mem_cons_self).2.pu, gd_pure fun x hx => h x (List.mem_cons_of_mem _ hx)]; rfl
theorem gd_noL : ∀ {a : List (PP × Val)}, (∀ e ∈ a, e.1 ∈ grid ∧ Good e.2) → Val.noLp (encP.d a) = true
  | [], _ => rfl
  | e :: a, h => by
    rw [enc_cons]
    show (e.2.noL && Val.noLp (encP.d a)) = true
    rw [(h e List.mem_cons_self).2.nl, gd_noL fun x hx => h x (List.mem_cons_of_mem _ hx)]; rfl
theorem gd_show : ∀ {a : List (PP × Val)}, (∀ e ∈ a, e.1 ∈ grid ∧ Good e.2) → PyData.showableKv (Val.toDp (encP.d a)) = true ∧ PyData.leavesShortKv 13 (Val.toDp (encP.d a)) = true ∧ PyData.weightKv (Val.toDp (encP.d a)) ≤ 202 * a.length ∧ PyData.depthKv (Val.toDp (encP.d a)) ≤ 5
  | [], _ => ⟨rfl, rfl, Nat.le_refl _, Nat.zero_le _⟩
  | e :: a, h => by
    rw [enc_cons]
    obtain ⟨h1, h2, h3, h4⟩ := gd_show (a := a) fun x hx => h x (List.mem_cons_of_mem _ hx)
    have g := h e List.mem_cons_self
    have k := good_pv g.1
    show PyData.showableKv (((pv e.1).toD, e.2.toD) :: _) = true ∧ PyData.leavesShortKv 13 (((pv e.1).toD, e.2.toD) :: _) = true ∧ PyData.weightKv (((pv e.1).toD, e.2.toD) :: _) ≤ _ ∧ PyData.depthKv (((pv e.1).toD, e.2.toD) :: _) ≤ _
    simp only [PyData.showableKv, PyData.leavesShortKv, PyData.weightKv, PyData.depthKv, k.sh, g.2.sh, h1, k.ls, g.2.ls, h2, Bool.and_true, List.length_cons, true_and]
    have := k.wt
    have := g.2.wt
    have := k.dp
    have := g.2.dp
    omega
theorem key_pv (p : PP) : dkey (pv p) = some (encP.c p) := encP.key p
theorem gd_vok {b : List (PP × Val)} (hb : ∀ e ∈ b, e.1 ∈ grid ∧ Good e.2) : ∀ {a : List (PP × Val)}, (∀ e ∈ a, e.1 ∈ grid ∧ Good e.2) → vokp (encP.d a) (encP.d b) = true
  | [], _ => by rw [show encP.d [] = [] from rfl]; unfold vokp; rfl
  | e :: a, h => by
    rw [enc_cons]
    unfold vokp
    rw [gd_vok hb fun x hx => h x (List.mem_cons_of_mem _ hx), Bool.and_true]
    unfold vok2
    rw [key_pv]
    dsimp only
    rw [encP.get]
    cases q : getL b e.1 with
    | none => rfl
    | some v => exact (h e List.mem_cons_self).2.ok (hb _ (getL_some q)).2
theorem gd_veq {b : List (PP × Val)} : ∀ {a : List (PP × Val)}, (∀ e ∈ a, Good e.2 ∧ getL b e.1 = some e.2) → veqp (encP.d a) (encP.d b) = true
  | [], _ => by rw [show encP.d [] = [] from rfl]; unfold veqp; rfl
  | e :: a, h => by
    rw [enc_cons]
    unfold veqp
    rw [gd_veq fun x hx => h x (List.mem_cons_of_mem _ hx), Bool.and_true]
    unfold veq2
    rw [key_pv]
    dsimp only
    rw [encP.get, (h e List.mem_cons_self).2]
    exact (h e List.mem_cons_self).1.eqv
theorem plain_dic (a : List (PP × Val)) : dfree (KV2 a) = false := by
  unfold dfree
  rw [show (KV2 a).toD.plain = false from by show PyData.plain (.dict _) = false; simp only [PyData.plain]]
  rw [Bool.and_false]
theorem plain_two (a b : List (PP × Val)) : dfree (.tup [KV2 a, KV2 b]) = false := by
  unfold dfree
  rw [show (Val.tup [KV2 a, KV2 b]).toD.plain = false from by
    show PyData.plain (.tuple [.dict _, .dict _]) = false
    simp only [PyData.plain, PyData.plainAll, Bool.false_and]]
  rw [Bool.and_false]
/-- two pairs of dicts that say the same -/
theorem two_facts {a a2 b b2 : List (PP × Val)} (ga : GD a) (ga2 : GD a2) (gb : GD b) (gb2 : GD b2) (l1 : a.length = b.length) (l2 : a2.length = b2.length) (e1 : ∀ e ∈ a, getL b e.1 = some e.2) (e2 : ∀ e ∈ a2, getL b2 e.1 = some e.2) :
    vok (.tup [KV2 a, KV2 a2]) (.tup [KV2 b, KV2 b2]) = true ∧ veq (.tup [KV2 a, KV2 a2]) (.tup [KV2 b, KV2 b2]) = true ∧ dep64 (.tup [KV2 a, KV2 a2]) = true := by
  have ok1 : ∀ {a b : List (PP × Val)}, GD a → GD b → vok (KV2 a) (KV2 b) = true := fun {a b} ga gb => by
    unfold vok
    rw [plain_dic, Bool.false_and, Bool.false_or]
    show ((Val.ownp (encP.d a) && Val.ownp (encP.d b)) && (Val.purep (encP.d a) && Val.purep (encP.d b)) && ((true == true) && vokp (encP.d a) (encP.d b))) = true
    rw [gd_own ga.2, gd_own gb.2, gd_pure ga.2, gd_pure gb.2, gd_vok gb.2 ga.2]; rfl
  have ok : vok (.tup [KV2 a, KV2 a2]) (.tup [KV2 b, KV2 b2]) = true := by
    unfold vok
    rw [plain_two, Bool.false_and, Bool.false_or]
    show (((Val.ownp (encP.d a) && (Val.ownp (encP.d a2) && true)) && (Val.ownp (encP.d b) && (Val.ownp (encP.d b2) && true))) && ((Val.purep (encP.d a) && (Val.purep (encP.d a2) && true)) && (Val.purep (encP.d b) && (Val.purep (encP.d b2) && true))) && voks [KV2 a, KV2 a2] [KV2 b, KV2 b2]) = true
    rw [gd_own ga.2, gd_own gb.2, gd_own ga2.2, gd_own gb2.2, gd_pure ga.2, gd_pure gb.2, gd_pure ga2.2, gd_pure gb2.2]
    unfold voks
    rw [ok1 ga gb]
    unfold voks
    rw [ok1 ga2 gb2]
    unfold voks
    rfl
  have v1 : ∀ {a b : List (PP × Val)}, GD a → a.length = b.length → (∀ e ∈ a, getL b e.1 = some e.2) → veq (KV2 a) (KV2 b) = true := fun {a b} ga l e => by
    unfold veq
    rw [plain_dic, Bool.false_and, if_neg (by decide)]
    show ((encP.d a).length == (encP.d b).length && veqp (encP.d a) (encP.d b)) = true
    rw [gd_veq fun x hx => ⟨(ga.2 x hx).2, e x hx⟩]
    unfold Enc.d
    rw [List.length_map, List.length_map, l]
    simp
  have vv : veq (.tup [KV2 a, KV2 a2]) (.tup [KV2 b, KV2 b2]) = true := by
    unfold veq
    rw [plain_two, Bool.false_and, if_neg (by decide)]
    show ((2 == 2) && veqs [KV2 a, KV2 a2] [KV2 b, KV2 b2]) = true
    unfold veqs
    rw [v1 ga l1 e1]
    unfold veqs
    rw [v1 ga2 l2 e2]
    unfold veqs
    rfl
  have dp : dep64 (.tup [KV2 a, KV2 a2]) = true := by
    unfold dep64
    rw [decide_eq_true_iff]
    show PyData.depth (.tuple [.dict (Val.toDp (encP.d a)), .dict (Val.toDp (encP.d a2))]) ≤ 50
    have := (gd_show ga.2).2.2.2
    have := (gd_show ga2.2).2.2.2
    simp only [PyData.depth, PyData.depthAll]
    omega
  exact ⟨ok, vv, dp⟩
theorem gNe_two {a a2 b b2 : List (PP × Val)} (ga : GD a) (ga2 : GD a2) (gb : GD b) (gb2 : GD b2) (l1 : a.length = b.length) (l2 : a2.length = b2.length) (e1 : ∀ e ∈ a, getL b e.1 = some e.2) (e2 : ∀ e ∈ a2, getL b2 e.1 = some e.2) :
    gNe (.tup [KV2 a, KV2 a2]) (.tup [KV2 b, KV2 b2]) = some (.bl false) := by
  obtain ⟨ok, vv, dp⟩ := two_facts ga ga2 gb gb2 l1 l2 e1 e2
  unfold gNe
  rw [ok, dp, vv]
  rfl
theorem gEq_two {a a2 b b2 : List (PP × Val)} (ga : GD a) (ga2 : GD a2) (gb : GD b) (gb2 : GD b2) (l1 : a.length = b.length) (l2 : a2.length = b2.length) (e1 : ∀ e ∈ a, getL b e.1 = some e.2) (e2 : ∀ e ∈ a2, getL b2 e.1 = some e.2) :
    gEq (.tup [KV2 a, KV2 a2]) (.tup [KV2 b, KV2 b2]) = some (.bl true) := by
  obtain ⟨ok, vv, dp⟩ := two_facts ga ga2 gb gb2 l1 l2 e1 e2
  unfold gEq
  rw [ok, dp, vv]
  rfl
theorem repr_two {a a2 : List (PP × Val)} (ga : GD a) (ga2 : GD a2) : ∃ x, gRepr [.tup [KV2 a, KV2 a2]] = some (.str x) := by
  have ok : reprOk (.tup [KV2 a, KV2 a2]) = true := by
    obtain ⟨s1, s2, s3, s4⟩ := gd_show ga.2
    obtain ⟨t1, t2, t3, t4⟩ := gd_show ga2.2
    unfold reprOk
    have n1 : (Val.tup [KV2 a, KV2 a2]).noL = true := by
      show (Val.noLp (encP.d a) && (Val.noLp (encP.d a2) && true)) = true
      rw [gd_noL ga.2, gd_noL ga2.2]; rfl
    have n2 : (Val.tup [KV2 a, KV2 a2]).toD = .tuple [.dict (Val.toDp (encP.d a)), .dict (Val.toDp (encP.d a2))] := rfl
    rw [n1, n2]
    have h1 := ga.1
    have h2 := ga2.1
    have w1 : PyData.showable (.tuple [.dict (Val.toDp (encP.d a)), .dict (Val.toDp (encP.d a2))]) = true := by
      simp only [PyData.showable, PyData.showableAll, s1, t1, Bool.and_true]
    have w2 : PyData.leavesShort 13 (.tuple [.dict (Val.toDp (encP.d a)), .dict (Val.toDp (encP.d a2))]) = true := by
      simp only [PyData.leavesShort, PyData.leavesShortAll, s2, t2, Bool.and_true]
    have w3 : PyData.weight (.tuple [.dict (Val.toDp (encP.d a)), .dict (Val.toDp (encP.d a2))]) ≤ 2 ^ 20 := by
      refine Nat.le_trans (m := 202 * 100 + 202 * 100 + 2) ?_ (by omega)
      simp only [PyData.weight, PyData.weightAll]
      omega
    have w4 : PyData.depth (.tuple [.dict (Val.toDp (encP.d a)), .dict (Val.toDp (encP.d a2))]) ≤ 50 := by
      simp only [PyData.depth, PyData.depthAll]
      omega
    rw [w1, w2, decide_eq_true w3, decide_eq_true w4]; rfl
  refine ⟨(Val.tup [KV2 a, KV2 a2]).toD.shown, ?_⟩
  show (if ((Val.tup [KV2 a, KV2 a2]).isRef && reprOk (Val.tup [KV2 a, KV2 a2])) = true then _ else none) = _
  rw [ok]
  rfl
theorem gNe_str (x : Str) : gNe (.str x) (.str x) = some (.bl false) := by
  have h : dfree (.str x) = true := by unfold dfree; rfl
  unfold gNe
  rw [show vok (.str x) (.str x) = true by unfold vok; rw [h]; rfl, show dep64 (.str x) = true from rfl, h, veq_df (by rw [h]; rfl), PySem.SeqAt.eqv_refl_plain _ rfl]
  rfl
end K04

/-! K04j: names and births; the rows of dicts that the law keeps. -/
namespace K04
open PySem PySem.Spec PyProof.Rows L2 VL
variable {u : W0.S}
theorem perm_of {l m : List PP} (h1 : l.Nodup) (h2 : m.Nodup) (h : ∀ a, a ∈ l ↔ a ∈ m) : l.Perm m := by
  rw [List.perm_ext_iff_of_nodup h1 h2]; exact h
/-- names and births kept right -/
structure NB (l : Fo) (nm : List (Int × PP)) (bn : List (Int × List Int)) (i : Nat) : Prop where
  nn : (nm.map (·.1)).Nodup
  np : (nm.map (·.2)).Perm (ks l)
  ni : ∀ e ∈ nm, e.1 < (i : Int)
  bi : ∀ e ∈ bn, e.1 < (i : Int)
  bl : bn.length ≤ i
  bs : ∀ e ∈ bn, e.2.length ≤ 100
  bt : ∀ e ∈ bn, ∀ b ∈ e.2, b < (i : Int)
  bb : ∀ a w, (a, w) ∈ nm → ∃ ts, getL bn a = some ts ∧ ts.Nodup ∧ ∀ b x, (b, x) ∈ nm → (b ∈ ts ↔ x ∈ up l w)
theorem NB.vn {l nm bn i} (N : NB l nm bn i) (hl : (ks l).Nodup) : (nm.map (·.2)).Nodup := N.np.nodup_iff.mpr hl
theorem val_inj {nm : List (Int × PP)} : (nm.map (·.2)).Nodup → ∀ {a b : Int} {x : PP}, (a, x) ∈ nm → (b, x) ∈ nm → a = b := by
  induction nm with
  | nil => intro _ a b x h; cases h
  | cons e r ih =>
    intro hn a b x ha hb
    rw [List.map_cons, List.nodup_cons] at hn
    have key : ∀ c : Int, (c, x) ∈ r → x ∈ r.map (·.2) := fun c h => List.mem_map.mpr ⟨(c, x), h, rfl⟩
    rcases List.mem_cons.mp ha with ea | ha
    · rcases List.mem_cons.mp hb with eb | hb
      · exact congrArg Prod.fst (ea.trans eb.symm)
      · exact absurd (ea ▸ key b hb : e.2 ∈ _) hn.1
    · rcases List.mem_cons.mp hb with eb | hb
      · exact absurd (eb ▸ key a ha : e.2 ∈ _) hn.1
      · exact ih hn.2 ha hb
def nmAt (nm : List (Int × PP)) (b : Int) : PP := (getL nm b).getD (0, 0)
theorem nmAt_mem {nm : List (Int × PP)} (hn : (nm.map (·.1)).Nodup) {b : Int} {x : PP} (h : (b, x) ∈ nm) : nmAt nm b = x := by
  unfold nmAt
  rw [getL_of_mem hn h]; rfl
def inD (nm : List (Int × PP)) (b : Int) : Bool := decide (b ∈ nm.map (·.1))
/-- what the law sorts at each name -/
theorem NB.same {l nm bn i n r} (N : NB l nm bn i) (F : Fst l n r) (hn : n < 900) {a : Int} {w : PP} (h : (a, w) ∈ nm) : ∃ ts, getL bn a = some ts ∧ sortP ((ts.filter fun b => inD nm b).map (nmAt nm)) = sortP (up l w) := by
  obtain ⟨ts, h1, h2, h3⟩ := N.bb a w h
  refine ⟨ts, h1, sortP_eq (perm_of ?_ (F.up_nd hn w) fun x => ?_)⟩
  · refine nodup_on (fun b hb c hc e => ?_) (List.Pairwise.filter _ h2)
    obtain ⟨_, hb⟩ := List.mem_filter.mp hb
    obtain ⟨_, hc⟩ := List.mem_filter.mp hc
    obtain ⟨⟨b', x⟩, hx, rfl⟩ := List.mem_map.mp (of_decide_eq_true hb)
    obtain ⟨⟨c', y⟩, hy, rfl⟩ := List.mem_map.mp (of_decide_eq_true hc)
    rw [nmAt_mem N.nn hx, nmAt_mem N.nn hy] at e
    subst e
    exact val_inj (N.vn F.nd) hx hy
  · constructor
    · intro hx
      obtain ⟨b, hb, rfl⟩ := List.mem_map.mp hx
      obtain ⟨hb, hc⟩ := List.mem_filter.mp hb
      obtain ⟨⟨b', x⟩, hx', rfl⟩ := List.mem_map.mp (of_decide_eq_true hc)
      rw [nmAt_mem N.nn hx']
      exact (h3 _ _ hx').mp hb
    · intro hx
      have hk := (F.up_mem hn w x hx).1
      obtain ⟨⟨b, y⟩, hy, rfl⟩ := List.mem_map.mp (N.np.mem_iff.mpr hk)
      refine List.mem_map.mpr ⟨b, List.mem_filter.mpr ⟨(h3 b y hy).mpr hx, decide_eq_true (List.mem_map.mpr ⟨_, hy, rfl⟩)⟩, nmAt_mem N.nn hy⟩
def born (l : Fo) (nm : List (Int × PP)) (o : Option PP) : List Int := (nm.map (·.1)).filter fun a => decide (nmAt nm a ∈ upO l o)
theorem nodup_app1 {α : Type} {l : List α} {a : α} (h : l.Nodup) (ha : a ∉ l) : (l ++ [a]).Nodup :=
  List.nodup_append.mpr ⟨h, by simp, fun x hx y hy => by rw [List.mem_singleton] at hy; subst hy; exact fun e => ha (e ▸ hx)⟩
theorem NB.add {l nm bn i n r} (N : NB l nm bn i) (F : Fst l n r) (hn : n + 1 < 900) (h22 : nm.length + 1 ≤ 100) {p : PP} {o : Option PP} (hp : p ∉ ks l) (ho : ∀ q, o = some q → q ∈ ks l) :
    NB (l ++ [(p, o)]) (nm ++ [((i : Int), p)]) (bn ++ [((i : Int), born l (nm ++ [((i : Int), p)]) o)]) (i + 1) := by
  have fi : (i : Int) ∉ nm.map (·.1) := fun z => by
    obtain ⟨e, he, h⟩ := List.mem_map.mp z
    have := N.ni e he
    omega
  have fb : (i : Int) ∉ bn.map (·.1) := fun z => by
    obtain ⟨e, he, h⟩ := List.mem_map.mp z
    have := N.bi e he
    omega
  have nn : ((nm ++ [((i : Int), p)]).map (·.1)).Nodup := by
    rw [List.map_append]
    exact nodup_app1 N.nn fi
  have pu : p ∉ upO l o := fun z => by
    cases o with
    | none => cases z
    | some q =>
      rcases List.mem_cons.mp z with rfl | z
      · exact hp (ho _ rfl)
      · exact hp (F.up_mem (by omega) q p z).1
  refine ⟨nn, ?_, fun e he => ?_, fun e he => ?_, ?_, fun e he => ?_, fun e he b hb => ?_, fun a w h => ?_⟩
  · rw [ks_app, List.map_append]
    exact N.np.append (List.Perm.refl _)
  · rcases List.mem_append.mp he with he | he
    · have := N.ni e he; omega
    · rw [List.mem_singleton] at he; subst he; show (i : Int) < _; omega
  · rcases List.mem_append.mp he with he | he
    · have := N.bi e he; omega
    · rw [List.mem_singleton] at he; subst he; show (i : Int) < _; omega
  · rw [List.length_append]; have := N.bl; simp; omega
  · rcases List.mem_append.mp he with he | he
    · exact N.bs e he
    · rw [List.mem_singleton] at he; subst he
      refine Nat.le_trans (List.length_filter_le _ _) ?_
      simp; omega
  · rcases List.mem_append.mp he with he | he
    · have := N.bt e he b hb; omega
    · rw [List.mem_singleton] at he; subst he
      have hb : b ∈ (nm ++ [((i : Int), p)]).map (·.1) := (List.mem_filter.mp hb).1
      obtain ⟨e, he, rfl⟩ := List.mem_map.mp hb
      rcases List.mem_append.mp he with he | he
      · have := N.ni e he; omega
      · rw [List.mem_singleton] at he; subst he; show (i : Int) < _; omega
  · rcases List.mem_append.mp h with h | h
    · obtain ⟨ts, h1, h2, h3⟩ := N.bb a w h
      have hw : w ∈ ks l := N.np.mem_iff.mp (List.mem_map.mpr ⟨_, h, rfl⟩)
      have ha := N.ni _ h
      refine ⟨ts, ?_, h2, fun b x hb => ?_⟩
      · rw [getL_app a fb, if_neg (show a ≠ (i : Int) from fun z => by simp only at ha; omega)]; exact h1
      · rw [up_app F hn hp ho w hw]
        rcases List.mem_append.mp hb with hb | hb
        · exact h3 b x hb
        · rw [List.mem_singleton] at hb
          cases hb
          constructor
          · intro z
            exact absurd (N.bt _ (getL_some h1) _ z) (by simp)
          · intro z
            exact absurd (F.up_mem (by omega) w p z).1 hp
    · rw [List.mem_singleton] at h
      cases h
      refine ⟨_, by rw [getL_app (i : Int) fb, if_pos rfl]; rfl, List.Pairwise.filter _ nn, fun b x hb => ?_⟩
      rw [up_app_new F hn hp ho]
      rw [List.mem_filter, decide_eq_true_eq, nmAt_mem nn hb]
      exact ⟨fun z => z.2, fun z => ⟨List.mem_map.mpr ⟨_, hb, rfl⟩, z⟩⟩
theorem NB.wait {l nm bn i} (N : NB l nm bn i) : NB l nm bn (i + 1) :=
  ⟨N.nn, N.np, fun e he => by have := N.ni e he; omega, fun e he => by have := N.bi e he; omega, by have := N.bl; omega, N.bs, fun e he b hb => by have := N.bt e he b hb; omega, N.bb⟩
theorem NB.del {l nm bn i n r} (N : NB l nm bn i) (F : Fst l n r) (hn : n < 900) {p : PP} : NB (del l p) (nm.filter fun e => !decide (e.2 = p)) bn (i + 1) := by
  have N' := N.wait
  refine ⟨?_, ?_, fun e he => N'.ni e (List.mem_filter.mp he).1, N'.bi, N'.bl, N'.bs, N'.bt, fun a w h => ?_⟩
  · have : ((nm.filter fun e => !decide (e.2 = p)).map (·.1)).Sublist (nm.map (·.1)) := List.filter_sublist.map _
    exact this.nodup N.nn
  · rw [ks_del]
    have := N.np.filter (fun y => !decide (y = p))
    rw [List.filter_map] at this
    exact this
  · obtain ⟨h, hw⟩ := List.mem_filter.mp h
    have hw : w ≠ p := by simpa using hw
    obtain ⟨ts, h1, h2, h3⟩ := N.bb a w h
    refine ⟨ts, h1, h2, fun b x hb => ?_⟩
    obtain ⟨hb, hx⟩ := List.mem_filter.mp hb
    rw [up_del F hn w hw, List.mem_filter, h3 b x hb]
    exact ⟨fun z => ⟨z, hx⟩, fun z => z.1⟩
theorem NB.mov {l nm bn i n r} (N : NB l nm bn i) (F : Fst l n r) (hn : n < 900) {p t : PP} (hp : p ∈ ks l) (ht : t ∉ ks l) : NB (mv l p t) (nm.map fun e => (e.1, sw p t e.2)) bn (i + 1) := by
  have N' := N.wait
  refine ⟨?_, ?_, fun e he => ?_, N'.bi, N'.bl, N'.bs, N'.bt, fun a w h => ?_⟩
  · rw [List.map_map]; exact N.nn
  · rw [ks_mv2]
    have := N.np.map (sw p t)
    rw [List.map_map] at this ⊢
    exact this
  · obtain ⟨e, he', rfl⟩ := List.mem_map.mp he
    exact N'.ni e he'
  · obtain ⟨⟨a', w'⟩, hm, e⟩ := List.mem_map.mp h
    have e1 : a' = a := congrArg Prod.fst e
    have e2 : sw p t w' = w := congrArg Prod.snd e
    clear e
    subst e1 e2
    obtain ⟨ts, h1, h2, h3⟩ := N.bb a' w' hm
    refine ⟨ts, h1, h2, fun b x hb => ?_⟩
    obtain ⟨⟨b', x'⟩, hbm, e⟩ := List.mem_map.mp hb
    have e1 : b' = b := congrArg Prod.fst e
    have e2 : sw p t x' = x := congrArg Prod.snd e
    clear e
    subst e1 e2
    have kk : ∀ {c y}, (c, y) ∈ nm → y ∈ ks l := fun {c y} h => N.np.mem_iff.mp (List.mem_map.mpr ⟨(c, y), h, rfl⟩)
    rw [up_mv F hn hp ht w' (kk hm), h3 b' x' hbm]
    constructor
    · intro z; exact List.mem_map.mpr ⟨x', z, rfl⟩
    · intro z
      obtain ⟨y, hy, e⟩ := List.mem_map.mp z
      have := sw_inj ht (F.up_mem hn w' y hy).1 (kk hbm) e
      exact this ▸ hy
end K04

/-! K04t: the law's command in parts (printed by gen04.py). -/
namespace K04
open PySem PySem.Spec PyProof.Rows L2 VL
def t7 : Cm W0 := (cSet 7 (e2 gAdd (eC (.int 10)) (e2 gMul (eC (.int 5)) (bP (pVar 6)))))
def t8 : Cm W0 := (cSet 8 (eF (fCl gSortD (pVar 2))))
def t9 : Cm W0 := (cSet 9 (eTup (eCons (eF (fCall 3 F__law_mix (eCons (eP (pVar 1)) (eCons (e2 gAdd (bP (pVar 7)) (eC (.int 1))) (eCons (eC (.int 3)) eNil))))) (eCons (eF (fCall 3 F__law_mix (eCons (eP (pVar 1)) (eCons (e2 gAdd (bP (pVar 7)) (eC (.int 2))) (eCons (eC (.int 6)) eNil))))) eNil))))
def t10 : Cm W0 := (cSet 10 (eF (fCall 3 F__law_mix (eCons (eP (pVar 1)) (eCons (eP (pVar 7)) (eCons (eC (.int 5)) eNil))))))
def t11 : Cm W0 := (cSet 11 (eCl gRepr (eCons (eTup (eCons (eP (pVar 2)) (eCons (eP (pVar 3)) eNil))) eNil)))
def tAdd : Cm W0 := (cSeq (cIf (tst (e2 (gInD false) (bP (pVar 9)) (bP (pVar 2)))) cCt cNx) (cSeq (cSet 13 (eP (pIx (pE (eF (fCat (pE (eF (fLst (eCons (eC .non) eNil)))) (pVar 8)))) (eF (fCall 3 F__law_mix (eCons (eP (pVar 1)) (eCons (e2 gAdd (bP (pVar 7)) (eC (.int 3))) (eCons (e2 gAdd (eCl gLen (eCons (bP (pVar 8)) eNil)) (eC (.int 1))) eNil)))))))) (cSeq (cSet 14 (eF (fCall 5 F_with_key (eCons (eP (pVar 2)) (eCons (eP (pVar 3)) (eCons (eP (pVar 9)) (eCons (eTup (eCons (eC (.str "page")) (eCons (eP (pVar 6)) (eCons (eC (.str "r")) (eCons (eC (.int 0)) eNil))))) (eCons (eP (pVar 13)) eNil)))))))) (cSeq (cSetF 15 (pE (eTup (eCons (eF (fCl (gPairs true) (pE (eF (fCat (pE (eF (fItems (pVar 2)))) (pE (eF (fLst (eCons (eTup (eCons (eP (pVar 9)) (eCons (eTup (eCons (eC (.str "page")) (eCons (eP (pVar 6)) (eCons (eC (.str "r")) (eCons (eC (.int 0)) eNil))))) eNil))) eNil))))))))) (eCons (eF (fCl (gPairs true) (pE (eF (fCat (pE (eF (fItems (pVar 3)))) (pE (eF (fLst (eCons (eTup (eCons (eP (pVar 9)) (eCons (eP (pVar 13)) eNil))) eNil))))))))) eNil))))) (cSeq (cPut 4 [ ] (eP (pVar 6)) (eP (pVar 9))) (cPut 5 [ ] (eP (pVar 6)) (eF (fLock 4 (fLc [ 12 ] (iOf OT.keysI (pVar 4)) (puN 12) (tAndS (tst (e2 (gIsN true) (bP (pVar 13)) (eC .non))) (tOrS (tst (e2 gEq (eDg (pVar 4) (eP (pVar 12))) (bP (pVar 13)))) (tst (e2 (gIn false) (eDg (pVar 4) (eP (pVar 12))) (eF (fCall 2 F__law_up (eCons (eP (pVar 3)) (eCons (eP (pVar 13)) eNil)))))))) (eP (pVar 12)))))))))))
def tDelFor : Cm W0 := (cIf (tst (e2 gNe (bP (pVar 12)) (bP (pVar 17)))) (cSeq (cPut 15 [ 1 ] (eP (pVar 12)) (eDg (pVar 3) (eP (pVar 12)))) (cIf (tst (e2 gEq (eDg (pVar 3) (eP (pVar 12))) (bP (pVar 17)))) (cPut 15 [ 1 ] (eP (pVar 12)) (eDg (pVar 3) (eP (pVar 17)))) cNx)) cNx)
def tMovFor : Cm W0 := (cSeq (cSet 18 (eP (pIx (pE (eF (fLst (eCons (eP (pVar 12)) (eCons (eP (pVar 9)) eNil))))) (eCl gInt (eCons (e2 gEq (bP (pVar 12)) (bP (pVar 17))) eNil))))) (cSeq (cPut 15 [ 0 ] (eP (pVar 18)) (eDg (pVar 2) (eP (pVar 12)))) (cSeq (cPut 15 [ 1 ] (eP (pVar 18)) (eDg (pVar 3) (eP (pVar 12)))) (cIf (tst (e2 gEq (eDg (pVar 3) (eP (pVar 12))) (bP (pVar 17)))) (cPut 15 [ 1 ] (eP (pVar 18)) (eP (pVar 9))) cNx))))
def tDel : Cm W0 := (cSeq (cSet 17 (eP (pIx (pVar 8) (eF (fCall 3 F__law_mix (eCons (eP (pVar 1)) (eCons (e2 gAdd (bP (pVar 7)) (eC (.int 3))) (eCons (eCl gLen (eCons (bP (pVar 8)) eNil)) eNil)))))))) (cSeq (cSet 14 (eF (fCall 3 F_without_slot (eCons (eP (pVar 2)) (eCons (eP (pVar 3)) (eCons (eP (pVar 17)) eNil)))))) (cSeq (cSetF 15 (fTup (fCons (fCl (gPairs true) (pE (eF (fLc [ 12 ] (iOf OT.keysI (pE (eP (pVar 2)))) (puN 12) (tst (e2 gNe (bP (pVar 12)) (bP (pVar 17)))) (eTup (eCons (eP (pVar 12)) (eCons (eDg (pVar 2) (eP (pVar 12))) eNil))))))) (fCons (fD0 true) fNil)))) (cSeq (cFor (iOf OT.keysI (pE (eP (pVar 3)))) (puN 12) (cIf (tst (e2 gNe (bP (pVar 12)) (bP (pVar 17)))) (cSeq (cPut 15 [ 1 ] (eP (pVar 12)) (eDg (pVar 3) (eP (pVar 12)))) (cIf (tst (e2 gEq (eDg (pVar 3) (eP (pVar 12))) (bP (pVar 17)))) (cPut 15 [ 1 ] (eP (pVar 12)) (eDg (pVar 3) (eP (pVar 17)))) cNx)) cNx)) (cSetF 4 (fCl (gPairs false) (pE (eF (fLock 4 (fLc [ 12 ] (iOf OT.keysI (pVar 4)) (puN 12) (tst (e2 gNe (eDg (pVar 4) (eP (pVar 12))) (bP (pVar 17)))) (eTup (eCons (eP (pVar 12)) (eCons (eDg (pVar 4) (eP (pVar 12))) eNil)))))))))))))
def tMov : Cm W0 := (cSeq (cSet 17 (eP (pIx (pVar 8) (eF (fCall 3 F__law_mix (eCons (eP (pVar 1)) (eCons (e2 gAdd (bP (pVar 7)) (eC (.int 3))) (eCons (eCl gLen (eCons (bP (pVar 8)) eNil)) eNil)))))))) (cSeq (cIf (tst (e2 (gInD false) (bP (pVar 9)) (bP (pVar 2)))) cCt cNx) (cSeq (cSet 14 (eF (fCall 4 F_moved (eCons (eP (pVar 2)) (eCons (eP (pVar 3)) (eCons (eP (pVar 17)) (eCons (eP (pVar 9)) eNil))))))) (cSeq (cSetF 15 (fTup (fCons (fD0 true) (fCons (fD0 true) fNil)))) (cSeq (cFor (iOf OT.keysI (pE (eP (pVar 2)))) (puN 12) (cSeq (cSet 18 (eP (pIx (pE (eF (fLst (eCons (eP (pVar 12)) (eCons (eP (pVar 9)) eNil))))) (eCl gInt (eCons (e2 gEq (bP (pVar 12)) (bP (pVar 17))) eNil))))) (cSeq (cPut 15 [ 0 ] (eP (pVar 18)) (eDg (pVar 2) (eP (pVar 12)))) (cSeq (cPut 15 [ 1 ] (eP (pVar 18)) (eDg (pVar 3) (eP (pVar 12)))) (cIf (tst (e2 gEq (eDg (pVar 3) (eP (pVar 12))) (bP (pVar 17)))) (cPut 15 [ 1 ] (eP (pVar 18)) (eP (pVar 9))) cNx))))) (cSetF 4 (fCl (gPairs false) (pE (eF (fLock 4 (fLc [ 12 ] (iOf OT.keysI (pVar 4)) (puN 12) tTrue (eTup (eCons (eP (pVar 12)) (eCons (eP (pIx (pE (eF (fLst (eCons (eDg (pVar 4) (eP (pVar 12))) (eCons (eP (pVar 9)) eNil))))) (eCl gInt (eCons (e2 gEq (eDg (pVar 4) (eP (pVar 12))) (bP (pVar 17))) eNil)))) eNil))))))))))))))
def tKind : Cm W0 := cIf (tOrS (tst (e2 gEq (bP (pVar 8)) (eF (fLst eNil)))) (tst (e2 gLt (bP (pVar 10)) (eC (.int 3))))) tAdd (cIf (tst (e2 gEq (bP (pVar 10)) (eC (.int 3)))) tDel tMov)
def tChk : Cm W0 := (cIf (tOrS (tst (e2 gNe (bP (pVar 14)) (bP (pVar 15)))) (tOrS (tst (e2 gNe (eCl gRepr (eCons (eTup (eCons (eP (pVar 2)) (eCons (eP (pVar 3)) eNil))) eNil)) (bP (pVar 11)))) (tNotS (tst (eF (fCall 2 F__law_right (eCons (eP (pIx (pVar 14) (eC (.int 0)))) (eCons (eP (pIx (pVar 14) (eC (.int 1)))) eNil)))))))) (cRet (eC (.bl false))) cNx)
def tAsg : Cm W0 := (cAsg (puT (puCons (puN 2) (puCons (puN 3) puNil))) (eP (pVar 14)))
def tLkFor : Cm W0 := (cSeq (cThenF 16 (cSetF 16 (fLc [ 19 ] (iOf OT.listI (pE (eDg (pVar 5) (eP (pVar 12))))) (puN 19) (tst (e2 (gInD false) (bP (pVar 19)) (bP (pVar 4)))) (eP (pVar 19))))) (cIf (tst (e2 gNe (eF (fCl gSortL (pE (eF (fLc [ 19 ] (iOf OT.listI (pE (eP (pVar 16)))) (puN 19) tTrue (eDg (pVar 4) (eP (pVar 19)))))))) (eF (fCl gSortL (pE (eF (fCall 2 F__law_up (eCons (eP (pVar 3)) (eCons (eDg (pVar 4) (eP (pVar 12))) eNil))))))))) (cRet (eC (.bl false))) cNx))
def tLk : Cm W0 := cLock 4 (cFor (iOf OT.keysI (pVar 4)) (puN 12) tLkFor)
def tBody : Cm W0 := cSeq t7 (cSeq t8 (cSeq t9 (cSeq t10 (cSeq t11 (cSeq tKind (cSeq tChk (cSeq tAsg tLk)))))))
def tFin : Cm W0 := (cRet (eAndV (e2 gEq (eF (fCall 2 F_came_of (eCons (eF (fDisp true [ ((eTup (eCons (eC (.int 0)) (eCons (eC (.int 0)) eNil))) , (eC .non)) ])) (eCons (eTup (eCons (eC (.int 0)) (eCons (eC (.int 0)) eNil))) eNil)))) (eF (fLst eNil))) (e2 gEq (eF (fCall 3 F_without_slot (eCons (eF (fDisp true [ ((eTup (eCons (eC (.int 0)) (eCons (eC (.int 0)) eNil))) , (eC (.int 1))) , ((eTup (eCons (eC (.int 0)) (eCons (eC (.int 1)) eNil))) , (eC (.int 2))) ])) (eCons (eF (fDisp true [ ((eTup (eCons (eC (.int 0)) (eCons (eC (.int 0)) eNil))) , (eC .non)) , ((eTup (eCons (eC (.int 0)) (eCons (eC (.int 1)) eNil))) , (eTup (eCons (eC (.int 0)) (eCons (eC (.int 0)) eNil)))) ])) (eCons (eTup (eCons (eC (.int 0)) (eCons (eC (.int 0)) eNil))) eNil))))) (eTup (eCons (eF (fDisp true [ ((eTup (eCons (eC (.int 0)) (eCons (eC (.int 1)) eNil))) , (eC (.int 2))) ])) (eCons (eF (fDisp true [ ((eTup (eCons (eC (.int 0)) (eCons (eC (.int 1)) eNil))) , (eC .non)) ])) eNil))))))
theorem law_parts : c_law = cSeq (cSet 1 (eF (fCall 1 F__law_draws (eCons (eP (pVar 0)) eNil)))) (cSeq (cSet 2 (eF (fD0 true))) (cSeq (cSet 3 (eF (fD0 true))) (cSeq (cSetF 4 (fD0 false)) (cSeq (cSetF 5 (fD0 false)) (cSeq (cFor (iR1 (eF (fCall 3 F__law_mix (eCons (eP (pVar 1)) (eCons (eC (.int 0)) (eCons (eC (.int 23)) eNil)))))) (puN 6) tBody) tFin))))) := rfl
end K04

/-! K04k: a turn's head; a key put in. -/
namespace K04
open PySem PySem.Spec PyProof.Rows L2 VL
variable {u : W0.S}
def DN (nm : List (Int × PP)) : List (Val × Val) := encI.d (nm.map fun e => (e.1, pv e.2))
def DB (bn : List (Int × List Int)) : List (Val × Val) := encI.d (bn.map fun e => (e.1, Val.lst (e.2.map .int)))
def PL (l : Fo) : List (PP × Val) := l.map fun p => (p.1, ov p.2)
theorem PV_eq (l : Fo) : PV l = KV2 (PL l) := rfl
def dsV (ds : List Int) : Val := .lst (ds.map .int)
theorem mix {ds : List Int} (hd : Dr ds) {k m : Int} (hk : 0 ≤ k) (hk2 : k < 10 ^ 9) (hm : 0 < m) : ∃ r : Int, 0 ≤ r ∧ r < m ∧ F__law_mix [dsV ds, .int k, .int m] u = .ok (.sh (.int r)) u := mix_run hd hk hk2 hm
theorem in_grid {a b : Int} (h1 : 0 ≤ a) (h2 : a < 3) (h3 : 0 ≤ b) (h4 : b < 6) : (a, b) ∈ grid := by
  have ha : a = 0 ∨ a = 1 ∨ a = 2 := by omega
  have hb : b = 0 ∨ b = 1 ∨ b = 2 ∨ b = 3 ∨ b = 4 ∨ b = 5 := by omega
  rcases ha with rfl | rfl | rfl <;> rcases hb with rfl | rfl | rfl | rfl | rfl | rfl <;> decide
theorem GD_P {l : Fo} (hz : l.length ≤ 100) (h : ∀ p ∈ ks l, p ∈ grid) (h2 : ∀ p q, (p, some q) ∈ l → q ∈ ks l) : GD (PL l) := by
  refine ⟨by unfold PL; rw [List.length_map]; exact hz, fun e he => ?_⟩
  obtain ⟨⟨p, o⟩, hp, rfl⟩ := List.mem_map.mp he
  refine ⟨h p (List.mem_map.mpr ⟨_, hp, rfl⟩), ?_⟩
  cases o with
  | none => exact good_none
  | some q => exact good_pv (h q (h2 p q hp))
/-- the law's state, right -/
structure Ri (m : List (PP × Val)) (l : Fo) (nm : List (Int × PP)) (bn : List (Int × List Int)) (i : Nat) : Prop where
  mp : (m.map (·.1)).Perm (ks l)
  gd : GD m
  gr : ∀ p ∈ ks l, p ∈ grid
  ex : ∃ n r, Fst l n r ∧ n ≤ i
  lz : l.length ≤ i
  nb : NB l nm bn i
theorem Ri.wait {m l nm bn i} (R : Ri m l nm bn i) : Ri m l nm bn (i + 1) := by
  obtain ⟨n, r, F, h⟩ := R.ex
  exact ⟨R.mp, R.gd, R.gr, ⟨n, r, F, by omega⟩, by have := R.lz; omega, R.nb.wait⟩
theorem Ri.gp {m l nm bn i} (R : Ri m l nm bn i) (hi : i ≤ 50) : GD (PL l) := by
  obtain ⟨n, r, F, h⟩ := R.ex
  exact GD_P (by have := R.lz; omega) R.gr fun p q h => (F.cl p q h).1
theorem head_run {ds : List Int} (hd : Dr ds) {m l nm bn} {i : Nat} (R : Ri m l nm bn i) (hi : i < 23) {a0 a4 a5 x7 x8 x9 x10 x11 x12 x13 x14 x15 x16 x17 x18 x19 : Option OT} :
    ∃ p ∈ grid, ∃ (kd : Int) (x : Str), gRepr [.tup [KV2 m, PV l]] = some (.str x) ∧ ∀ k : Cm W0,
      (cSeq t7 (cSeq t8 (cSeq t9 (cSeq t10 (cSeq t11 k))))) [a0, some (.sh (dsV ds)), some (.sh (KV2 m)), some (.sh (PV l)), a4, a5, some (.sh (.int i)), x7, x8, x9, x10, x11, x12, x13, x14, x15, x16, x17, x18, x19] u =
        k [a0, some (.sh (dsV ds)), some (.sh (KV2 m)), some (.sh (PV l)), a4, a5, some (.sh (.int i)), some (.sh (.int (10 + 5 * i))), some (.sh (.lst ((sortP (m.map (·.1))).map pv))), some (.sh (pv p)), some (.sh (.int kd)), some (.sh (.str x)), x12, x13, x14, x15, x16, x17, x18, x19] u := by
  obtain ⟨a, a1, a2, ea⟩ := mix (u := u) hd (k := 10 + 5 * (i : Int) + 1) (m := 3) (by omega) (by omega) (by decide)
  obtain ⟨b, b1, b2, eb⟩ := mix (u := u) hd (k := 10 + 5 * (i : Int) + 2) (m := 6) (by omega) (by omega) (by decide)
  obtain ⟨c, c1, c2, ec⟩ := mix (u := u) hd (k := 10 + 5 * (i : Int)) (m := 5) (by omega) (by omega) (by decide)
  obtain ⟨x, ex⟩ := repr_two R.gd (R.gp (by omega))
  rw [← PV_eq] at ex
  refine ⟨(a, b), in_grid a1 a2 b1 b2, c, x, ex, fun k => ?_⟩
  have m1 := mul_ok (i := 5) (j := (i : Int)) (by decide) (by omega)
  have gk := gSortD_K (m := m) (by have := R.gd.1; omega)
  have hz : 2 ≤ sizeLine := by rw [sizeLine_eq]; omega
  unfold t7 t8 t9 t10 t11
  generalize hL : (sortP (m.map (·.1))).map pv = L at gk
  simp [m1, gk, ea, eb, ec, ex, small, hz]
  rfl
theorem keys_DN (nm : List (Int × PP)) : (DN nm).map (·.1) = (nm.map (·.1)).map Val.int := by
  unfold DN Enc.d
  rw [List.map_map, List.map_map, List.map_map]
  rfl
theorem dg_DN {nm : List (Int × PP)} (hn : (nm.map (·.1)).Nodup) {a : Int} (h : a ∈ nm.map (·.1)) : VL.dget false (DN nm) (.int a) = some (some (pv (nmAt nm a))) := by
  obtain ⟨⟨a', x⟩, hx, rfl⟩ := List.mem_map.mp h
  rw [nmAt_mem hn hx]
  have := encI.dget a' (nm.map fun e => (e.1, pv e.2))
  rw [getL_map, getL_of_mem hn hx] at this
  exact this
def uni : Val → Int
  | .int i => i
  | _ => 0
@[simp] theorem uni_int (i : Int) : uni (.int i) = i := rfl
theorem filter_int (P : Val → Bool) (L : List Int) : ((L.map Val.int).filter P).map (fun x => x) = (L.filter fun p => P (.int p)).map Val.int := by
  rw [List.map_id', List.filter_map]; rfl
theorem DN_app (nm : List (Int × PP)) (a : Int) (p : PP) (h : a ∉ nm.map (·.1)) : encI.d (putL (nm.map fun e => (e.1, pv e.2)) a (pv p)) = DN (nm ++ [(a, p)]) := by
  rw [putL_new (by rw [List.map_map]; exact h)]
  unfold DN
  rw [List.map_append]; rfl
theorem DB_app (bn : List (Int × List Int)) (a : Int) (ts : List Int) (h : a ∉ bn.map (·.1)) : encI.d (putL (bn.map fun e => (e.1, Val.lst (e.2.map .int))) a (.lst (ts.map .int))) = DB (bn ++ [(a, ts)]) := by
  rw [putL_new (by rw [List.map_map]; exact h)]
  unfold DB
  rw [List.map_append]; rfl
theorem born_run {l : Fo} {n : Nat} {r : PP → Nat} (F : Fst l n r) (hn : n < 900) {nm : List (Int × PP)} (nn : (nm.map (·.1)).Nodup) (hz : nm.length ≤ 100) {o : Option PP} (ho : ∀ q, o = some q → q ∈ ks l) {a0 a1 a2 a5 x6 x7 x8 x9 x10 x11 x12 x14 x15 x16 x17 x18 x19 : Option OT} :
    compS [a0, a1, a2, some (.sh (PV l)), some (.oR false (DN nm)), a5, x6, x7, x8, x9, x10, x11, x12, some (.sh (ov o)), x14, x15, x16, x17, x18, x19] [12] (puN 12) (tAndS (tst (e2 (gIsN true) (bP (pVar 13)) (eC .non))) (tOrS (tst (e2 gEq (eDg (pVar 4) (eP (pVar 12))) (bP (pVar 13)))) (tst (e2 (gIn false) (eDg (pVar 4) (eP (pVar 12))) (eF (fCall 2 F__law_up (eCons (eP (pVar 3)) (eCons (eP (pVar 13)) eNil)))))))) (eP (pVar 12)) ((nm.map (·.1)).map Val.int) [] u = .ok (.oL ((born l nm o).map .int)) u := by
  have e1 := compS_map (W := W0) (s := u) (ρ := [a0, a1, a2, some (.sh (PV l)), some (.oR false (DN nm)), a5, x6, x7, x8, x9, x10, x11, x12, some (.sh (ov o)), x14, x15, x16, x17, x18, x19]) (vs := [12]) (i := 12) (t := (tAndS (tst (e2 (gIsN true) (bP (pVar 13)) (eC .non))) (tOrS (tst (e2 gEq (eDg (pVar 4) (eP (pVar 12))) (bP (pVar 13)))) (tst (e2 (gIn false) (eDg (pVar 4) (eP (pVar 12))) (eF (fCall 2 F__law_up (eCons (eP (pVar 3)) (eCons (eP (pVar 13)) eNil))))))))) (f := eP (pVar 12))
    (fun v => decide (nmAt nm (uni v) ∈ upO l o)) (fun v => v) (xs := (nm.map (·.1)).map Val.int) (acc := []) (fun x hx => by
      obtain ⟨y, hy, rfl⟩ := List.mem_map.mp hx
      have h1 := dg_DN nn hy
      have h2 : dgO (.oR false (DN nm)) (.int y) = some (some (pv (nmAt nm y))) := h1
      cases o with
      | none => simp [wipeE, ov, Val.isN, upO]
      | some q =>
        have h3 := up_run (u := u) F hn (ho q rfl)
        have h4 := gEq_pv (nmAt nm y) q
        have h5 := gIn_pvs (nmAt nm y) (up l q)
        have h6 : ov (some q) = pv q := rfl
        have h7 : (pv q).isN = false := rfl
        by_cases h8 : nmAt nm y = q
        · have h9 : q ∈ upO l (some q) := List.mem_cons_self
          rw [h8] at h2 h4
          rw [decide_eq_true rfl] at h4
          simp [wipeE, h2, h4, h6, h7, h8, h9]
        · have h9 : (nmAt nm y ∈ upO l (some q)) ↔ nmAt nm y ∈ up l q := by
            show nmAt nm y ∈ q :: up l q ↔ _
            rw [List.mem_cons]
            exact ⟨fun z => z.resolve_left h8, .inr⟩
          simp [wipeE, h2, h3, h4, h5, h6, h7, h8, h9]) (fun x _ _ => by simp [wipeE]) (by
        rw [List.length_map, List.length_map, sizeLine_eq]; simp; omega)
  rw [filter_int] at e1
  simp only [List.nil_append, uni_int] at e1
  exact e1
theorem dget_K (m : List (PP × Val)) (p : PP) : gInD false (pv p) (KV2 m) = some (.bl (decide (p ∈ m.map (·.1)))) := by
  rw [show gInD false (pv p) (KV2 m) = _ from gInD_of encP p m]
  congr
theorem pairs_app {m : List (PP × Val)} {p : PP} {v : Val} (hn : (m.map (·.1)).Nodup) (hp : p ∉ m.map (·.1)) : gPairs true (.sh (.lst ((encP.d m).map (fun e => .tup [e.1, e.2]) ++ [.tup [pv p, v]]))) = some (.oD true (encP.d (m ++ [(p, v)]))) := by
  have h := pairs_of encP (L := m ++ [(p, v)]) (by rw [List.map_append]; exact nodup_app1 hn hp)
  have e : (m ++ [(p, v)]).map (fun e => Val.tup [encP.e e.1, e.2]) = (encP.d m).map (fun e => Val.tup [e.1, e.2]) ++ [.tup [pv p, v]] := by
    rw [List.map_append]
    unfold Enc.d
    rw [List.map_map]
    rfl
  rw [e] at h
  exact h
theorem len_d (m : List (PP × Val)) : (encP.d m).length = m.length := by unfold Enc.d; rw [List.length_map]
theorem add_run {ds : List Int} (hd : Dr ds) {m l nm bn} {i : Nat} (R : Ri m l nm bn i) (hi : i < 23) {p : PP} (hg : p ∈ grid) (hp : p ∉ ks l) {a0 x10 x11 x12 x13 x14 x15 x16 x17 x18 x19 : Option OT} :
    ∃ o, (∀ q, o = some q → q ∈ ks l) ∧ ∃ y12,
      tAdd [a0, some (.sh (dsV ds)), some (.sh (KV2 m)), some (.sh (PV l)), some (.oD false (DN nm)), some (.oD false (DB bn)), some (.sh (.int i)), some (.sh (.int (10 + 5 * i))), some (.sh (.lst ((sortP (m.map (·.1))).map pv))), some (.sh (pv p)), x10, x11, x12, x13, x14, x15, x16, x17, x18, x19] u =
        (.nx [a0, some (.sh (dsV ds)), some (.sh (KV2 m)), some (.sh (PV l)), some (.oD false (DN (nm ++ [((i : Int), p)]))), some (.oD false (DB (bn ++ [((i : Int), born l (nm ++ [((i : Int), p)]) o)]))), some (.sh (.int i)), some (.sh (.int (10 + 5 * i))), some (.sh (.lst ((sortP (m.map (·.1))).map pv))), some (.sh (pv p)), x10, x11, y12, some (.sh (ov o)), some (.sh (.tup [KV2 (m ++ [(p, page i)]), PV (l ++ [(p, o)])])), some (.sh (.tup [KV2 (m ++ [(p, page i)]), PV (l ++ [(p, o)])])), x16, x17, x18, x19] u : Out W0.S) := by
  obtain ⟨n, r, F, hni⟩ := R.ex
  have hpm : p ∉ m.map (·.1) := fun z => hp (R.mp.mem_iff.mp z)
  have hmn : (m.map (·.1)).Nodup := R.mp.nodup_iff.mpr F.nd
  have hml : m.length = l.length := by have := R.mp.length_eq; unfold ks at this; simpa using this
  have hnl : nm.length = l.length := by have := R.nb.np.length_eq; unfold ks at this; simpa using this
  have hlz := R.lz
  have sl : (sortP (m.map (·.1))).length = l.length := by rw [(sortP_perm _).length_eq, List.length_map, hml]
  obtain ⟨c, c1, c2, ec⟩ := mix (u := u) hd (k := 10 + 5 * (i : Int) + 3) (m := ((sortP (m.map (·.1))).length : Int) + 1) (by omega) (by omega) (by omega)
  obtain ⟨o, ho, eo⟩ := ix_map (L := none :: (sortP (m.map (·.1))).map some) (f := ov) c1 (by simp; omega)
  have hol : ∀ q, o = some q → q ∈ ks l := fun q e => by
    subst e
    rcases List.mem_cons.mp ho with z | z
    · cases z
    · obtain ⟨q', hq, e⟩ := List.mem_map.mp z
      cases e
      exact R.mp.mem_iff.mp ((sortP_perm _).mem_iff.mp hq)
  rw [List.map_cons, List.map_map] at eo
  have eo : ixO (.sh (.lst (.non :: (sortP (m.map (·.1))).map pv))) (.int c) = some (.sh (ov o)) := eo
  refine ⟨o, hol, ?_⟩
  have w := with_run (u := u) R.gr F.nd (by omega) (fun q hq => R.gr q (R.mp.mem_iff.mp hq)) hmn (by omega) (p := p) (o := o) (v := page i) hp hpm
  have pk := pairs_app (v := Val.tup [.str "page", .int i, .str "r", .int 0]) hmn hpm
  have hpl : p ∉ (PL l).map (·.1) := by unfold PL; rw [List.map_map]; exact hp
  have hnl2 : ((PL l).map (·.1)).Nodup := by unfold PL; rw [List.map_map]; exact F.nd
  have pp := pairs_app (v := ov o) hnl2 hpl
  have fi : (i : Int) ∉ nm.map (·.1) := fun z => by
    obtain ⟨e, he, h⟩ := List.mem_map.mp z
    have := R.nb.ni e he
    omega
  have fb : (i : Int) ∉ bn.map (·.1) := fun z => by
    obtain ⟨e, he, h⟩ := List.mem_map.mp z
    have := R.nb.bi e he
    omega
  have nn : ((nm ++ [((i : Int), p)]).map (·.1)).Nodup := by rw [List.map_append]; exact nodup_app1 R.nb.nn fi
  have dK : (OT.sh (KV2 m)).dict = some (true, encP.d m) := rfl
  have dP : (OT.sh (PV l)).dict = some (true, encP.d (PL l)) := rfl
  have g1 := dget_K m p
  rw [decide_eq_false hpm] at g1
  have z1 : 1 + (sortP (m.map (·.1))).length ≤ sizeLine := by rw [sizeLine_eq]; omega
  have z2 : 1 ≤ sizeLine := by rw [sizeLine_eq]; omega
  have z3 : 4 ≤ sizeLine := by rw [sizeLine_eq]; omega
  have z4 : m.length + 1 ≤ sizeLine := by rw [sizeLine_eq]; omega
  have z5 : (PL l).length + 1 ≤ sizeLine := by unfold PL; rw [List.length_map, sizeLine_eq]; omega
  have z6 : 2 ≤ sizeLine := by rw [sizeLine_eq]; omega
  have b1 := fun y12 => born_run (u := u) F (by omega) nn (by simp; omega) hol (a0 := a0) (a1 := some (.sh (dsV ds))) (a2 := some (.sh (KV2 m))) (a5 := some (.oD false (DB bn))) (x6 := some (.sh (.int i))) (x7 := some (.sh (.int (10 + 5 * i)))) (x8 := some (.sh (.lst ((sortP (m.map (·.1))).map pv)))) (x9 := some (.sh (pv p))) (x10 := x10) (x11 := x11) (x12 := y12) (x14 := some (.sh (.tup [KV2 (m ++ [(p, page i)]), PV (l ++ [(p, o)])]))) (x15 := some (.sh (.tup [KV2 (m ++ [(p, page i)]), PV (l ++ [(p, o)])]))) (x16 := x16) (x17 := x17) (x18 := x18) (x19 := x19)
  have kn : (OT.oR false (DN (nm ++ [((i : Int), p)]))).keysI = some (((nm ++ [((i : Int), p)]).map (·.1)).map Val.int) := by show some ((DN _).map (·.1)) = _; rw [keys_DN]
  generalize hK : ((nm ++ [((i : Int), p)]).map (·.1)).map Val.int = Kn at kn b1
  have q1 : putD [a0, some (.sh (dsV ds)), some (.sh (KV2 m)), some (.sh (PV l)), some (.oD false (DN nm)), some (.oD false (DB bn)), some (.sh (.int i)), some (.sh (.int (10 + 5 * i))), some (.sh (.lst ((sortP (m.map (·.1))).map pv))), some (.sh (pv p)), x10, x11, x12, some (.sh (ov o)), some (.sh (.tup [KV2 (m ++ [(p, page i)]), PV (l ++ [(p, o)])])), some (.sh (.tup [KV2 (m ++ [(p, page i)]), PV (l ++ [(p, o)])])), x16, x17, x18, x19] 4 [] (.int (i : Int)) (pv p) = some [a0, some (.sh (dsV ds)), some (.sh (KV2 m)), some (.sh (PV l)), some (.oD false (DN (nm ++ [((i : Int), p)]))), some (.oD false (DB bn)), some (.sh (.int i)), some (.sh (.int (10 + 5 * i))), some (.sh (.lst ((sortP (m.map (·.1))).map pv))), some (.sh (pv p)), x10, x11, x12, some (.sh (ov o)), some (.sh (.tup [KV2 (m ++ [(p, page i)]), PV (l ++ [(p, o)])])), some (.sh (.tup [KV2 (m ++ [(p, page i)]), PV (l ++ [(p, o)])])), x16, x17, x18, x19] := by
    have := putD_at encI (ρ := [a0, some (.sh (dsV ds)), some (.sh (KV2 m)), some (.sh (PV l)), some (.oD false (DN nm)), some (.oD false (DB bn)), some (.sh (.int i)), some (.sh (.int (10 + 5 * i))), some (.sh (.lst ((sortP (m.map (·.1))).map pv))), some (.sh (pv p)), x10, x11, x12, some (.sh (ov o)), some (.sh (.tup [KV2 (m ++ [(p, page i)]), PV (l ++ [(p, o)])])), some (.sh (.tup [KV2 (m ++ [(p, page i)]), PV (l ++ [(p, o)])])), x16, x17, x18, x19]) (i := 4) (π := []) (A := nm.map fun e => (e.1, pv e.2)) (k := (i : Int)) (v := pv p) rfl (by rw [List.length_map]; omega)
    rw [DN_app nm i p fi] at this
    exact this
  have q2 : ∀ y12 ts, putD [a0, some (.sh (dsV ds)), some (.sh (KV2 m)), some (.sh (PV l)), some (.oD false (DN (nm ++ [((i : Int), p)]))), some (.oD false (DB bn)), some (.sh (.int i)), some (.sh (.int (10 + 5 * i))), some (.sh (.lst ((sortP (m.map (·.1))).map pv))), some (.sh (pv p)), x10, x11, y12, some (.sh (ov o)), some (.sh (.tup [KV2 (m ++ [(p, page i)]), PV (l ++ [(p, o)])])), some (.sh (.tup [KV2 (m ++ [(p, page i)]), PV (l ++ [(p, o)])])), x16, x17, x18, x19] 5 [] (.int (i : Int)) (.lst (ts.map .int)) = some [a0, some (.sh (dsV ds)), some (.sh (KV2 m)), some (.sh (PV l)), some (.oD false (DN (nm ++ [((i : Int), p)]))), some (.oD false (DB (bn ++ [((i : Int), ts)]))), some (.sh (.int i)), some (.sh (.int (10 + 5 * i))), some (.sh (.lst ((sortP (m.map (·.1))).map pv))), some (.sh (pv p)), x10, x11, y12, some (.sh (ov o)), some (.sh (.tup [KV2 (m ++ [(p, page i)]), PV (l ++ [(p, o)])])), some (.sh (.tup [KV2 (m ++ [(p, page i)]), PV (l ++ [(p, o)])])), x16, x17, x18, x19] := by
    intro y12 ts
    have := putD_at encI (ρ := [a0, some (.sh (dsV ds)), some (.sh (KV2 m)), some (.sh (PV l)), some (.oD false (DN (nm ++ [((i : Int), p)]))), some (.oD false (DB bn)), some (.sh (.int i)), some (.sh (.int (10 + 5 * i))), some (.sh (.lst ((sortP (m.map (·.1))).map pv))), some (.sh (pv p)), x10, x11, y12, some (.sh (ov o)), some (.sh (.tup [KV2 (m ++ [(p, page i)]), PV (l ++ [(p, o)])])), some (.sh (.tup [KV2 (m ++ [(p, page i)]), PV (l ++ [(p, o)])])), x16, x17, x18, x19]) (i := 5) (π := []) (A := bn.map fun e => (e.1, Val.lst (e.2.map .int))) (k := (i : Int)) (v := .lst (ts.map .int)) rfl (by rw [List.length_map]; have := R.nb.bl; omega)
    rw [DB_app bn i ts fb] at this
    exact this
  have pg : page i = .tup [.str "page", .int i, .str "r", .int 0] := rfl
  have pvo : PV (l ++ [(p, o)]) = .dic true (encP.d (PL l ++ [(p, ov o)])) := by unfold PV PL; rw [List.map_append]; rfl
  have kvo : KV2 (m ++ [(p, page i)]) = .dic true (encP.d (m ++ [(p, page i)])) := rfl
  rw [pvo, kvo, pg] at q1 q2 b1 ⊢
  rw [pvo, kvo, pg] at w
  generalize hL : (sortP (m.map (·.1))) = L at *
  refine ⟨x12, ?_⟩
  unfold tAdd
  simp only [s_seq, s_cif, s_tst, s_e2, s_bP, s_pVar', List.getElem?_cons_succ, List.getElem?_cons_zero, s_bind, s_val, g1, s_opt, s_go, s_cNx, s_nx, Bool.false_eq_true, if_false]
  simp [z1, z2, z3, z4, z5, z6, small, ec, eo, w, dK, dP, pk, pp, len_d, q1, kn, b1, q2]
end K04

/-! K04l: a key deleted. -/
namespace K04
open PySem PySem.Spec PyProof.Rows L2 VL
variable {u : W0.S}
theorem names_list {nm : List (Int × PP)} (nn : (nm.map (·.1)).Nodup) (P : PP → Bool) (g : PP → Val) : ((((nm.map (·.1)).map Val.int).filter fun v => P (nmAt nm (uni v))).map fun v => Val.tup [v, g (nmAt nm (uni v))]) = ((nm.filter fun e => P e.2).map fun e => (e.1, g e.2)).map fun e => Val.tup [encI.e e.1, e.2] := by
  rw [List.map_map, List.filter_map, List.map_map, List.map_map]
  have h : ∀ e ∈ nm, nmAt nm e.1 = e.2 := fun e he => nmAt_mem nn (x := e.2) (b := e.1) he
  have e1 : (nm.filter ((fun v => P (nmAt nm (uni v))) ∘ (Val.int ∘ fun x => x.1))) = nm.filter fun e => P e.2 := by
    apply List.filter_congr
    intro e he
    show P (nmAt nm e.1) = P e.2
    rw [h e he]
  rw [e1]
  apply List.map_congr_left
  intro e he
  show Val.tup [.int e.1, g (nmAt nm e.1)] = _
  rw [h e (List.mem_filter.mp he).1]
  rfl
theorem keys_list {m : List (PP × Val)} (hn : (m.map (·.1)).Nodup) (P : PP → Bool) : ((((m.map (·.1)).map pv).filter fun v => P (unpv v)).map fun v => Val.tup [v, (getL m (unpv v)).getD .non]) = (m.filter fun e => P e.1).map fun e => Val.tup [encP.e e.1, e.2] := by
  rw [List.map_map, List.filter_map, List.map_map]
  apply List.map_congr_left
  intro e he
  have := getL_of_mem hn (k := e.1) (v := e.2) (List.mem_filter.mp he).1
  show Val.tup [pv e.1, (getL m e.1).getD .non] = _
  rw [this]
  rfl
def delP (o : Option PP) (l : Fo) (q : PP) : Fo := (l.filter fun e => !decide (e.1 = q)).map fun e => (e.1, if e.2 = some q then o else e.2)
theorem delP_app (o : Option PP) (l : Fo) (q : PP) (e : PP × Option PP) : delP o (l ++ [e]) q = delP o l q ++ (if e.1 = q then [] else [(e.1, if e.2 = some q then o else e.2)]) := by
  unfold delP
  rw [List.filter_append, List.map_append]
  congr 1
  by_cases h : e.1 = q <;> simp [h]
theorem PL_app (l : Fo) (e : PP × Option PP) : PL (l ++ [e]) = PL l ++ [(e.1, ov e.2)] := by unfold PL; rw [List.map_append]; rfl
theorem nodup_filter_fst {α β : Type} {l : List (α × β)} {P : α × β → Bool} (h : (l.map (·.1)).Nodup) : ((l.filter P).map (·.1)).Nodup :=
  (List.filter_sublist.map (fun x : α × β => x.1)).nodup h
theorem delrow {l : Fo} {n : Nat} {r : PP → Nat} (F : Fst l n r) (hl : l.length ≤ 900) {q : PP} (hq : q ∈ ks l) {T : OT} {a0 a1 a2 a4 a5 x6 x7 x8 x9 x10 x11 x12 x13 x14 x16 x18 x19 : Option OT} :
    ∃ y12, forS (puN 12) tDelFor ((ks l).map pv) [a0, a1, a2, some (.sh (PV l)), a4, a5, x6, x7, x8, x9, x10, x11, x12, x13, x14, some (.oT [T, .oD true []]), x16, some (.sh (pv q)), x18, x19] u =
      (.nx [a0, a1, a2, some (.sh (PV l)), a4, a5, x6, x7, x8, x9, x10, x11, y12, x13, x14, some (.oT [T, .oD true (encP.d (PL (del l q)))]), x16, some (.sh (pv q)), x18, x19] u : Out W0.S) := by
  obtain ⟨oq, hq1, hq2⟩ := F.mem hq
  have pq : par l q = oq := by unfold par; rw [hq2]; rfl
  have eq : dgO (.sh (PV l)) (pv q) = some (some (ov (par l q))) := by rw [dgP, hq2, pq]; rfl
  obtain ⟨ρ2, s2, row, rfl, y12, hρ⟩ := forS_inv (W := W0) (p := puN 12) (b := tDelFor)
    (fun j ρ s => u = s ∧ ∃ y12, ρ = [a0, a1, a2, some (.sh (PV l)), a4, a5, x6, x7, x8, x9, x10, x11, y12, x13, x14, some (.oT [T, .oD true (encP.d (PL (delP (par l q) (l.take j) q)))]), x16, some (.sh (pv q)), x18, x19])
    (xs := (ks l).map pv) (n := 0) (ρ := [a0, a1, a2, some (.sh (PV l)), a4, a5, x6, x7, x8, x9, x10, x11, x12, x13, x14, some (.oT [T, .oD true []]), x16, some (.sh (pv q)), x18, x19]) (s := u) ⟨rfl, x12, rfl⟩ (by
      rintro j x ρ s hx ⟨rfl, y12, rfl⟩
      rw [Nat.zero_add]
      rw [List.getElem?_map] at hx
      cases hy : (ks l)[j]? with
      | none => rw [hy] at hx; cases hx
      | some y =>
        rw [hy] at hx; cases hx
        have hy0 := hy
        unfold ks at hy0
        rw [List.getElem?_map] at hy0
        cases he : l[j]? with
        | none => rw [he] at hy0; cases hy0
        | some e =>
          rw [he] at hy0
          have hy0 : e.1 = y := by simpa using hy0
          subst hy0
          have hel : e ∈ l := List.mem_of_getElem? he
          have h4 := getL_of_mem F.nd (k := e.1) (v := e.2) hel
          have e2 : dgO (.sh (PV l)) (pv e.1) = some (some (ov e.2)) := by rw [dgP, h4]; rfl
          have e3 : gEq (ov e.2) (pv q) = some (.bl (decide (e.2 = some q))) := gEq_ov e.2 (some q)
          have e4 := gNe_pv e.1 q
          rw [take_succ he, delP_app]
          generalize hA : delP (par l q) (l.take j) q = A
          have lA : (PL A).length ≤ 900 := by
            rw [← hA]; unfold PL delP
            rw [List.length_map, List.length_map]
            refine Nat.le_trans (List.length_filter_le _ _) ?_
            rw [List.length_take]; omega
          have nA : e.1 ∉ (PL A).map (·.1) := fun z => by
            rw [← hA] at z
            unfold PL delP at z
            rw [List.map_map, List.map_map] at z
            obtain ⟨e', he', h⟩ := List.mem_map.mp z
            have h5 := (List.mem_filter.mp he').1
            have h6 := not_take F.nd (i := j) (x := e.1) (by unfold ks; rw [List.getElem?_map, he]; rfl)
            refine h6 ?_
            unfold ks
            rw [← List.map_take]
            exact List.mem_map.mpr ⟨e', h5, h⟩
          refine ⟨_, rfl, ?_⟩
          by_cases q1 : e.1 = q
          · rw [q1] at e4
            rw [decide_eq_true rfl] at e4
            refine ⟨[a0, a1, a2, some (.sh (PV l)), a4, a5, x6, x7, x8, x9, x10, x11, some (.sh (pv e.1)), x13, x14, some (.oT [T, .oD true (encP.d (PL A))]), x16, some (.sh (pv q)), x18, x19], u, .inl ?_, rfl, some (.sh (pv e.1)), by rw [if_pos q1, List.append_nil]⟩
            rw [q1]
            unfold tDelFor
            simp [e4]
          · rw [decide_eq_false q1] at e4
            have p1 := putD_at encP (ρ := [a0, a1, a2, some (.sh (PV l)), a4, a5, x6, x7, x8, x9, x10, x11, some (.sh (pv e.1)), x13, x14, some (.oT [T, .oD true (encP.d (PL A))]), x16, some (.sh (pv q)), x18, x19]) (i := 15) (π := [1]) (k := e.1) (v := ov e.2) (A := PL A) rfl (by omega)
            rw [putL_new nA] at p1
            have p1 : putD [a0, a1, a2, some (.sh (PV l)), a4, a5, x6, x7, x8, x9, x10, x11, some (.sh (pv e.1)), x13, x14, some (.oT [T, .oD true (encP.d (PL A))]), x16, some (.sh (pv q)), x18, x19] 15 [1] (pv e.1) (ov e.2) = some [a0, a1, a2, some (.sh (PV l)), a4, a5, x6, x7, x8, x9, x10, x11, some (.sh (pv e.1)), x13, x14, some (.oT [T, .oD true (encP.d (PL A ++ [(e.1, ov e.2)]))]), x16, some (.sh (pv q)), x18, x19] := p1
            have p2 := putD_at encP (ρ := [a0, a1, a2, some (.sh (PV l)), a4, a5, x6, x7, x8, x9, x10, x11, some (.sh (pv e.1)), x13, x14, some (.oT [T, .oD true (encP.d (PL A ++ [(e.1, ov e.2)]))]), x16, some (.sh (pv q)), x18, x19]) (i := 15) (π := [1]) (k := e.1) (v := ov (par l q)) (A := PL A ++ [(e.1, ov e.2)]) rfl (by rw [List.length_append]; simp; omega)
            rw [putL_last nA] at p2
            have p2 : putD [a0, a1, a2, some (.sh (PV l)), a4, a5, x6, x7, x8, x9, x10, x11, some (.sh (pv e.1)), x13, x14, some (.oT [T, .oD true (encP.d (PL A ++ [(e.1, ov e.2)]))]), x16, some (.sh (pv q)), x18, x19] 15 [1] (pv e.1) (ov (par l q)) = some [a0, a1, a2, some (.sh (PV l)), a4, a5, x6, x7, x8, x9, x10, x11, some (.sh (pv e.1)), x13, x14, some (.oT [T, .oD true (encP.d (PL A ++ [(e.1, ov (par l q))]))]), x16, some (.sh (pv q)), x18, x19] := p2
            refine ⟨[a0, a1, a2, some (.sh (PV l)), a4, a5, x6, x7, x8, x9, x10, x11, some (.sh (pv e.1)), x13, x14, some (.oT [T, .oD true (encP.d (PL A ++ [(e.1, ov (if e.2 = some q then par l q else e.2))]))]), x16, some (.sh (pv q)), x18, x19], u, .inl ?_, rfl, some (.sh (pv e.1)), by rw [if_neg q1, PL_app]⟩
            have ow : ∀ B, ownAt [a0, a1, a2, some (.sh (PV l)), a4, a5, x6, x7, x8, x9, x10, x11, some (.sh (pv e.1)), x13, x14, some (.oT [T, .oD true B]), x16, some (.sh (pv q)), x18, x19] 15 [1] = some (.oT [T, .oD true B], .oD true B) := fun B => rfl
            unfold tDelFor
            by_cases q2 : e.2 = some q
            · rw [if_pos q2]
              rw [q2] at e2 e3 p1 p2
              rw [decide_eq_true rfl] at e3
              simp [e4, e2, e3, OT.at, p1, p2, eq]
            · rw [if_neg q2]
              rw [decide_eq_false q2] at e3
              simp [e4, e2, e3, OT.at, p1])
  subst hρ
  refine ⟨y12, ?_⟩
  rw [row]
  have e9 : l.take (0 + ((ks l).map pv).length) = l := by
    apply List.take_of_length_le
    unfold ks
    simp
  rw [e9]
  rfl
theorem pick {ds : List Int} (hd : Dr ds) {m l nm bn} {i : Nat} (R : Ri m l nm bn i) (hi : i < 23) (hne : m ≠ []) : ∃ q ∈ ks l, ∃ c : Int, F__law_mix [dsV ds, .int (10 + 5 * (i : Int) + 3), .int ((sortP (m.map (·.1))).length : Int)] u = .ok (.sh (.int c)) u ∧ ixO (.sh (.lst ((sortP (m.map (·.1))).map pv))) (.int c) = some (.sh (pv q)) := by
  have h0 : 0 < (sortP (m.map (·.1))).length := by
    rw [(sortP_perm _).length_eq, List.length_map]
    exact List.length_pos_iff.mpr hne
  obtain ⟨c, c1, c2, ec⟩ := mix (u := u) hd (k := 10 + 5 * (i : Int) + 3) (m := ((sortP (m.map (·.1))).length : Int)) (by omega) (by omega) (by omega)
  obtain ⟨q, hq, eq⟩ := ix_map (L := sortP (m.map (·.1))) (f := pv) c1 c2
  exact ⟨q, R.mp.mem_iff.mp ((sortP_perm _).mem_iff.mp hq), c, ec, eq⟩
theorem del_run {ds : List Int} (hd : Dr ds) {m l nm bn} {i : Nat} (R : Ri m l nm bn i) (hi : i < 23) (hne : m ≠ []) {a0 a5 x9 x10 x11 x12 x13 x14 x15 x16 x17 x18 x19 : Option OT} :
    ∃ q ∈ ks l, ∃ y12,
      tDel [a0, some (.sh (dsV ds)), some (.sh (KV2 m)), some (.sh (PV l)), some (.oD false (DN nm)), a5, some (.sh (.int i)), some (.sh (.int (10 + 5 * i))), some (.sh (.lst ((sortP (m.map (·.1))).map pv))), x9, x10, x11, x12, x13, x14, x15, x16, x17, x18, x19] u =
        (.nx [a0, some (.sh (dsV ds)), some (.sh (KV2 m)), some (.sh (PV l)), some (.oD false (DN (nm.filter fun e => !decide (e.2 = q)))), a5, some (.sh (.int i)), some (.sh (.int (10 + 5 * i))), some (.sh (.lst ((sortP (m.map (·.1))).map pv))), x9, x10, x11, y12, x13, some (.sh (.tup [KV2 (m.filter fun e => !decide (e.1 = q)), PV (del l q)])), some (.oT [.oD true (encP.d (m.filter fun e => !decide (e.1 = q))), .oD true (encP.d (PL (del l q)))]), x16, some (.sh (pv q)), x18, x19] u : Out W0.S) := by
  obtain ⟨n, r, F, hni⟩ := R.ex
  have hmn : (m.map (·.1)).Nodup := R.mp.nodup_iff.mpr F.nd
  have hml : m.length = l.length := by have := R.mp.length_eq; unfold ks at this; simpa using this
  have hnl : nm.length = l.length := by have := R.nb.np.length_eq; unfold ks at this; simpa using this
  have hlz := R.lz
  obtain ⟨q, hq, c, ec, eo⟩ := pick (u := u) hd R hi hne
  refine ⟨q, hq, ?_⟩
  have w := without_run (u := u) F (by omega) hmn (by omega) hq
  have z6 : 2 ≤ sizeLine := by rw [sizeLine_eq]; omega
  have k1 := keysI_P l
  have k2 := keysI_K m
  -- the first dict of due
  have d1 := compS_map (W := W0) (s := u) (ρ := [a0, some (.sh (dsV ds)), some (.sh (KV2 m)), some (.sh (PV l)), some (.oD false (DN nm)), a5, some (.sh (.int i)), some (.sh (.int (10 + 5 * i))), some (.sh (.lst ((sortP (m.map (·.1))).map pv))), x9, x10, x11, x12, x13, some (.sh (.tup [KV2 (m.filter fun e => !decide (e.1 = q)), PV (del l q)])), x15, x16, some (.sh (pv q)), x18, x19]) (vs := [12]) (i := 12) (t := tst (VL.e2 gNe (bP (pVar 12)) (bP (pVar 17)))) (f := eTup (eCons (eP (pVar 12)) (eCons (eDg (pVar 2) (eP (pVar 12))) eNil)))
    (fun v => !decide (unpv v = q)) (fun v => .tup [v, (getL m (unpv v)).getD .non]) (xs := (m.map (·.1)).map pv) (acc := []) (fun x hx => by
      obtain ⟨y, hy, rfl⟩ := List.mem_map.mp hx
      simp [wipeE, gNe_pv]; congr) (fun x hx _ => by
      obtain ⟨y, hy, rfl⟩ := List.mem_map.mp hx
      obtain ⟨e, he, rfl⟩ := List.mem_map.mp hy
      have h3 := getL_of_mem hmn (k := e.1) (v := e.2) he
      have e2 : dgO (.sh (KV2 m)) (pv e.1) = some (some e.2) := by rw [dgK, h3]
      simp [wipeE, e2, h3, small, z6]) (by rw [List.length_map, List.length_map, sizeLine_eq]; simp; omega)
  rw [keys_list hmn (fun y => !decide (y = q)), List.nil_append] at d1
  have g1 := pairs_of encP (L := m.filter fun e => !decide (e.1 = q)) (nodup_filter_fst hmn)
  have g1 : gPairs true (.sh (.lst ((m.filter fun e => !decide (e.1 = q)).map fun e => Val.tup [encP.e e.1, e.2]))) = some (.oD true (encP.d (m.filter fun e => !decide (e.1 = q)))) := g1
  obtain ⟨y12, row⟩ := delrow (u := u) F (by omega) hq (T := .oD true (encP.d (m.filter fun e => !decide (e.1 = q)))) (a0 := a0) (a1 := some (.sh (dsV ds))) (a2 := some (.sh (KV2 m))) (a4 := some (.oD false (DN nm))) (a5 := a5) (x6 := some (.sh (.int i))) (x7 := some (.sh (.int (10 + 5 * i)))) (x8 := some (.sh (.lst ((sortP (m.map (·.1))).map pv)))) (x9 := x9) (x10 := x10) (x11 := x11) (x12 := x12) (x13 := x13) (x14 := some (.sh (.tup [KV2 (m.filter fun e => !decide (e.1 = q)), PV (del l q)]))) (x16 := x16) (x18 := x18) (x19 := x19)
  -- the names
  have kn : (OT.oR false (DN nm)).keysI = some ((nm.map (·.1)).map Val.int) := by show some ((DN _).map (·.1)) = _; rw [keys_DN]
  have d2 := compS_map (W := W0) (s := u) (ρ := [a0, some (.sh (dsV ds)), some (.sh (KV2 m)), some (.sh (PV l)), some (.oR false (DN nm)), a5, some (.sh (.int i)), some (.sh (.int (10 + 5 * i))), some (.sh (.lst ((sortP (m.map (·.1))).map pv))), x9, x10, x11, y12, x13, some (.sh (.tup [KV2 (m.filter fun e => !decide (e.1 = q)), PV (del l q)])), some (.oT [.oD true (encP.d (m.filter fun e => !decide (e.1 = q))), .oD true (encP.d (PL (del l q)))]), x16, some (.sh (pv q)), x18, x19]) (vs := [12]) (i := 12) (t := tst (VL.e2 gNe (eDg (pVar 4) (eP (pVar 12))) (bP (pVar 17)))) (f := eTup (eCons (eP (pVar 12)) (eCons (eDg (pVar 4) (eP (pVar 12))) eNil)))
    (fun v => !decide (nmAt nm (uni v) = q)) (fun v => .tup [v, pv (nmAt nm (uni v))]) (xs := (nm.map (·.1)).map Val.int) (acc := []) (fun x hx => by
      obtain ⟨y, hy, rfl⟩ := List.mem_map.mp hx
      have h2 : dgO (.oR false (DN nm)) (.int y) = some (some (pv (nmAt nm y))) := dg_DN R.nb.nn hy
      simp [wipeE, gNe_pv, h2]; congr) (fun x hx _ => by
      obtain ⟨y, hy, rfl⟩ := List.mem_map.mp hx
      have h2 : dgO (.oR false (DN nm)) (.int y) = some (some (pv (nmAt nm y))) := dg_DN R.nb.nn hy
      simp [wipeE, h2, small, z6]) (by rw [List.length_map, List.length_map, sizeLine_eq]; simp; omega)
  rw [names_list R.nb.nn (fun y => !decide (y = q)) pv, List.nil_append] at d2
  have g2 := pairs_of encI (L := (nm.filter fun e => !decide (e.2 = q)).map fun e => (e.1, pv e.2)) (by rw [List.map_map]; exact nodup_filter_fst R.nb.nn)
  have g2 : gPairs false (.sh (.lst (((nm.filter fun e => !decide (e.2 = q)).map fun e => (e.1, pv e.2)).map fun e => Val.tup [encI.e e.1, e.2]))) = some (.oD false (DN (nm.filter fun e => !decide (e.2 = q)))) := g2
  generalize hK : (nm.map (·.1)).map Val.int = Kn at kn d2
  generalize hK1 : (ks l).map pv = K1 at k1 row
  generalize hK2 : (m.map (·.1)).map pv = K2 at k2 d1
  generalize hG1 : ((m.filter fun e => !decide (e.1 = q)).map fun e => Val.tup [encP.e e.1, e.2]) = G1 at d1 g1
  generalize hG2 : (((nm.filter fun e => !decide (e.2 = q)).map fun e => (e.1, pv e.2)).map fun e => Val.tup [encI.e e.1, e.2]) = G2 at d2 g2
  generalize hL : (sortP (m.map (·.1))) = L at *
  refine ⟨y12, ?_⟩
  unfold tDelFor at row
  unfold tDel
  simp [ec, eo, w, k2, d1, g1, small, z6, k1, row, kn, d2, g2]
end K04

/-! K04n: a key moved. -/
namespace K04
open PySem PySem.Spec PyProof.Rows L2 VL
variable {u : W0.S}
def MK (m : List (PP × Val)) (q p : PP) : List (PP × Val) := m.map fun e => (sw q p e.1, e.2)
def MP (m : List (PP × Val)) (l : Fo) (q p : PP) : List (PP × Val) := m.map fun e => (sw q p e.1, ov ((par l e.1).map (sw q p)))
theorem MK_keys (m : List (PP × Val)) (q p : PP) : (MK m q p).map (·.1) = (m.map (·.1)).map (sw q p) := by unfold MK; rw [List.map_map, List.map_map]; rfl
theorem MP_keys (m : List (PP × Val)) (l : Fo) (q p : PP) : (MP m l q p).map (·.1) = (m.map (·.1)).map (sw q p) := by unfold MP; rw [List.map_map, List.map_map]; rfl
theorem swap_ix {a p q : PP} : ∃ c : Int, (if decide (a = q) = true then (1 : Int) else 0) = c ∧ ixO (.sh (.lst [pv a, pv p])) (.int c) = some (.sh (pv (sw q p a))) := by
  refine ⟨_, rfl, ?_⟩
  unfold sw
  by_cases h : a = q
  · rw [if_pos h, if_pos (decide_eq_true h)]; rfl
  · rw [if_neg h, if_neg (by simpa using h)]; rfl
theorem movrow {l : Fo} {n : Nat} {r : PP → Nat} (F : Fst l n r) {m : List (PP × Val)} (hm : (m.map (·.1)).Perm (ks l)) (hz : m.length ≤ 900) {q p : PP} (hp : p ∉ ks l) {a0 a1 a4 a5 x6 x7 x8 x10 x11 x12 x13 x14 x16 x18 x19 : Option OT} :
    ∃ y12 y18, forS (puN 12) tMovFor ((m.map (·.1)).map pv) [a0, a1, some (.sh (KV2 m)), some (.sh (PV l)), a4, a5, x6, x7, x8, some (.sh (pv p)), x10, x11, x12, x13, x14, some (.oT [.oD true [], .oD true []]), x16, some (.sh (pv q)), x18, x19] u =
      (.nx [a0, a1, some (.sh (KV2 m)), some (.sh (PV l)), a4, a5, x6, x7, x8, some (.sh (pv p)), x10, x11, y12, x13, x14, some (.oT [.oD true (encP.d (MK m q p)), .oD true (encP.d (MP m l q p))]), x16, some (.sh (pv q)), y18, x19] u : Out W0.S) := by
  have hmn : (m.map (·.1)).Nodup := hm.nodup_iff.mpr F.nd
  have swn : ((m.map (·.1)).map (sw q p)).Nodup := nodup_on (fun a ha b hb e => sw_inj hp (hm.mem_iff.mp ha) (hm.mem_iff.mp hb) e) hmn
  have z2 : 2 ≤ sizeLine := by rw [sizeLine_eq]; omega
  obtain ⟨ρ2, s2, row, rfl, y12, y18, hρ⟩ := forS_inv (W := W0) (p := puN 12) (b := tMovFor)
    (fun j ρ s => u = s ∧ ∃ y12 y18, ρ = [a0, a1, some (.sh (KV2 m)), some (.sh (PV l)), a4, a5, x6, x7, x8, some (.sh (pv p)), x10, x11, y12, x13, x14, some (.oT [.oD true (encP.d (MK (m.take j) q p)), .oD true (encP.d (MP (m.take j) l q p))]), x16, some (.sh (pv q)), y18, x19])
    (xs := (m.map (·.1)).map pv) (n := 0) (ρ := [a0, a1, some (.sh (KV2 m)), some (.sh (PV l)), a4, a5, x6, x7, x8, some (.sh (pv p)), x10, x11, x12, x13, x14, some (.oT [.oD true [], .oD true []]), x16, some (.sh (pv q)), x18, x19]) (s := u) ⟨rfl, x12, x18, rfl⟩ (by
      rintro j x ρ s hx ⟨rfl, y12, y18, rfl⟩
      rw [Nat.zero_add]
      rw [List.getElem?_map, List.getElem?_map] at hx
      cases he : m[j]? with
      | none => rw [he] at hx; cases hx
      | some e =>
        rw [he] at hx
        cases hx
        have hel : e ∈ m := List.mem_of_getElem? he
        have hk : e.1 ∈ ks l := hm.mem_iff.mp (List.mem_map.mpr ⟨e, hel, rfl⟩)
        have h3 := getL_of_mem hmn (k := e.1) (v := e.2) hel
        have e2 : dgO (.sh (KV2 m)) (pv e.1) = some (some e.2) := by rw [dgK, h3]
        obtain ⟨o, ho1, ho2⟩ := F.mem hk
        have po : par l e.1 = o := by unfold par; rw [ho2]; rfl
        have e3 : dgO (.sh (PV l)) (pv e.1) = some (some (ov o)) := by rw [dgP, ho2]; rfl
        have e4 : gEq (ov o) (pv q) = some (.bl (decide (o = some q))) := gEq_ov o (some q)
        have e5 := gEq_pv e.1 q
        obtain ⟨c, ec, ei⟩ := swap_ix (a := e.1) (p := p) (q := q)
        have tk : MK (m.take (j + 1)) q p = MK (m.take j) q p ++ [(sw q p e.1, e.2)] := by rw [take_succ he]; unfold MK; rw [List.map_append]; rfl
        have tp : MP (m.take (j + 1)) l q p = MP (m.take j) l q p ++ [(sw q p e.1, ov (o.map (sw q p)))] := by rw [take_succ he, ← po]; unfold MP; rw [List.map_append]; rfl
        have fresh : sw q p e.1 ∉ ((m.take j).map (·.1)).map (sw q p) := by
          have h6 := not_take swn (i := j) (x := sw q p e.1) (by rw [List.getElem?_map, List.getElem?_map, he]; rfl)
          rw [← List.map_take, ← List.map_take] at h6
          exact h6
        rw [tk, tp]
        have nA : sw q p e.1 ∉ (MK (m.take j) q p).map (·.1) := by rw [MK_keys]; exact fresh
        have nB : sw q p e.1 ∉ (MP (m.take j) l q p).map (·.1) := by rw [MP_keys]; exact fresh
        have lA : (MK (m.take j) q p).length ≤ 900 := by unfold MK; rw [List.length_map, List.length_take]; omega
        have lB : (MP (m.take j) l q p).length ≤ 900 := by unfold MP; rw [List.length_map, List.length_take]; omega
        generalize MK (m.take j) q p = A at *
        generalize MP (m.take j) l q p = B at *
        generalize hs : sw q p e.1 = s at *
        have p1 := putD_at encP (ρ := [a0, a1, some (.sh (KV2 m)), some (.sh (PV l)), a4, a5, x6, x7, x8, some (.sh (pv p)), x10, x11, some (.sh (pv e.1)), x13, x14, some (.oT [.oD true (encP.d A), .oD true (encP.d B)]), x16, some (.sh (pv q)), some (.sh (pv s)), x19]) (i := 15) (π := [0]) (k := s) (v := e.2) (A := A) rfl (by omega)
        rw [putL_new nA] at p1
        have p1 : putD [a0, a1, some (.sh (KV2 m)), some (.sh (PV l)), a4, a5, x6, x7, x8, some (.sh (pv p)), x10, x11, some (.sh (pv e.1)), x13, x14, some (.oT [.oD true (encP.d A), .oD true (encP.d B)]), x16, some (.sh (pv q)), some (.sh (pv s)), x19] 15 [0] (pv s) e.2 = some [a0, a1, some (.sh (KV2 m)), some (.sh (PV l)), a4, a5, x6, x7, x8, some (.sh (pv p)), x10, x11, some (.sh (pv e.1)), x13, x14, some (.oT [.oD true (encP.d (A ++ [(s, e.2)])), .oD true (encP.d B)]), x16, some (.sh (pv q)), some (.sh (pv s)), x19] := p1
        generalize hA2 : A ++ [(s, e.2)] = A2 at *
        have p2 := putD_at encP (ρ := [a0, a1, some (.sh (KV2 m)), some (.sh (PV l)), a4, a5, x6, x7, x8, some (.sh (pv p)), x10, x11, some (.sh (pv e.1)), x13, x14, some (.oT [.oD true (encP.d A2), .oD true (encP.d B)]), x16, some (.sh (pv q)), some (.sh (pv s)), x19]) (i := 15) (π := [1]) (k := s) (v := ov o) (A := B) rfl (by omega)
        rw [putL_new nB] at p2
        have p2 : putD [a0, a1, some (.sh (KV2 m)), some (.sh (PV l)), a4, a5, x6, x7, x8, some (.sh (pv p)), x10, x11, some (.sh (pv e.1)), x13, x14, some (.oT [.oD true (encP.d A2), .oD true (encP.d B)]), x16, some (.sh (pv q)), some (.sh (pv s)), x19] 15 [1] (pv s) (ov o) = some [a0, a1, some (.sh (KV2 m)), some (.sh (PV l)), a4, a5, x6, x7, x8, some (.sh (pv p)), x10, x11, some (.sh (pv e.1)), x13, x14, some (.oT [.oD true (encP.d A2), .oD true (encP.d (B ++ [(s, ov o)]))]), x16, some (.sh (pv q)), some (.sh (pv s)), x19] := p2
        have p3 := putD_at encP (ρ := [a0, a1, some (.sh (KV2 m)), some (.sh (PV l)), a4, a5, x6, x7, x8, some (.sh (pv p)), x10, x11, some (.sh (pv e.1)), x13, x14, some (.oT [.oD true (encP.d A2), .oD true (encP.d (B ++ [(s, ov o)]))]), x16, some (.sh (pv q)), some (.sh (pv s)), x19]) (i := 15) (π := [1]) (k := s) (v := pv p) (A := B ++ [(s, ov o)]) rfl (by rw [List.length_append]; simp; omega)
        rw [putL_last nB] at p3
        have p3 : putD [a0, a1, some (.sh (KV2 m)), some (.sh (PV l)), a4, a5, x6, x7, x8, some (.sh (pv p)), x10, x11, some (.sh (pv e.1)), x13, x14, some (.oT [.oD true (encP.d A2), .oD true (encP.d (B ++ [(s, ov o)]))]), x16, some (.sh (pv q)), some (.sh (pv s)), x19] 15 [1] (pv s) (pv p) = some [a0, a1, some (.sh (KV2 m)), some (.sh (PV l)), a4, a5, x6, x7, x8, some (.sh (pv p)), x10, x11, some (.sh (pv e.1)), x13, x14, some (.oT [.oD true (encP.d A2), .oD true (encP.d (B ++ [(s, pv p)]))]), x16, some (.sh (pv q)), some (.sh (pv s)), x19] := p3
        refine ⟨_, rfl, [a0, a1, some (.sh (KV2 m)), some (.sh (PV l)), a4, a5, x6, x7, x8, some (.sh (pv p)), x10, x11, some (.sh (pv e.1)), x13, x14, some (.oT [.oD true (encP.d A2), .oD true (encP.d (B ++ [(s, ov (o.map (sw q p)))]))]), x16, some (.sh (pv q)), some (.sh (pv s)), x19], u, .inl ?_, rfl, _, _, rfl⟩
        have gi : gInt [.bl (decide (e.1 = q))] = some (.int c) := by rw [← ec]; rfl
        have at0 : ∀ A B : List (Val × Val), OT.at [0] (.oT [.oD true A, .oD true B]) = some (.oD true A) := fun A B => rfl
        have at1 : ∀ A B : List (Val × Val), OT.at [1] (.oT [.oD true A, .oD true B]) = some (.oD true B) := fun A B => rfl
        clear he
        generalize decide (e.1 = q) = bb at e5 gi
        unfold tMovFor
        by_cases q2 : o = some q
        · subst q2
          have o1 : ov (Option.map (sw q p) (some q)) = pv p := by show pv (sw q p q) = pv p; unfold sw; rw [if_pos rfl]
          rw [decide_eq_true rfl] at e4
          rw [o1]
          simp [e5, gi, ei, small, z2, e2, e3, e4, at0, at1, p1, p2, p3]
        · have o1 : o.map (sw q p) = o := by
            cases o with
            | none => rfl
            | some w =>
              show some (sw q p w) = some w
              unfold sw
              rw [if_neg fun z => q2 (by rw [z])]
          rw [decide_eq_false q2] at e4
          rw [o1]
          simp [e5, gi, ei, small, z2, e2, e3, e4, at0, at1, p1, p2])
  subst hρ
  refine ⟨y12, y18, ?_⟩
  rw [row]
  have e9 : m.take (0 + ((m.map (·.1)).map pv).length) = m := by
    apply List.take_of_length_le
    simp
  rw [e9]
theorem mov_run {ds : List Int} (hd : Dr ds) {m l nm bn} {i : Nat} (R : Ri m l nm bn i) (hi : i < 23) (hne : m ≠ []) {p : PP} (hp : p ∉ ks l) {a0 a5 x10 x11 x12 x13 x14 x15 x16 x17 x18 x19 : Option OT} :
    ∃ q ∈ ks l, ∃ v, getL m q = some v ∧ ∃ y12 y18,
      tMov [a0, some (.sh (dsV ds)), some (.sh (KV2 m)), some (.sh (PV l)), some (.oD false (DN nm)), a5, some (.sh (.int i)), some (.sh (.int (10 + 5 * i))), some (.sh (.lst ((sortP (m.map (·.1))).map pv))), some (.sh (pv p)), x10, x11, x12, x13, x14, x15, x16, x17, x18, x19] u =
        (.nx [a0, some (.sh (dsV ds)), some (.sh (KV2 m)), some (.sh (PV l)), some (.oD false (DN (nm.map fun e => (e.1, sw q p e.2)))), a5, some (.sh (.int i)), some (.sh (.int (10 + 5 * i))), some (.sh (.lst ((sortP (m.map (·.1))).map pv))), some (.sh (pv p)), x10, x11, y12, x13, some (.sh (.tup [KV2 ((m.filter fun e => !decide (e.1 = q)) ++ [(p, v)]), PV (mv l q p)])), some (.oT [.oD true (encP.d (MK m q p)), .oD true (encP.d (MP m l q p))]), x16, some (.sh (pv q)), y18, x19] u : Out W0.S) := by
  obtain ⟨n, r, F, hni⟩ := R.ex
  have hmn : (m.map (·.1)).Nodup := R.mp.nodup_iff.mpr F.nd
  have hpm : p ∉ m.map (·.1) := fun z => hp (R.mp.mem_iff.mp z)
  have hml : m.length = l.length := by have := R.mp.length_eq; unfold ks at this; simpa using this
  have hnl : nm.length = l.length := by have := R.nb.np.length_eq; unfold ks at this; simpa using this
  have hlz := R.lz
  obtain ⟨q, hq, c, ec, eo⟩ := pick (u := u) hd R hi hne
  obtain ⟨v, hv⟩ : ∃ v, getL m q = some v := by
    cases h : getL m q with
    | some v => exact ⟨v, rfl⟩
    | none => exact absurd (R.mp.mem_iff.mpr hq) (getL_none.mp h)
  refine ⟨q, hq, v, hv, ?_⟩
  have w := moved_run (u := u) F (by omega) hmn (by omega) hv hp hpm
  have z6 : 2 ≤ sizeLine := by rw [sizeLine_eq]; omega
  have k2 := keysI_K m
  have gk := dget_K m p
  rw [decide_eq_false hpm] at gk
  obtain ⟨y12, y18, row⟩ := movrow (u := u) F R.mp (by omega) (q := q) hp (a0 := a0) (a1 := some (.sh (dsV ds))) (a4 := some (.oD false (DN nm))) (a5 := a5) (x6 := some (.sh (.int i))) (x7 := some (.sh (.int (10 + 5 * i)))) (x8 := some (.sh (.lst ((sortP (m.map (·.1))).map pv)))) (x10 := x10) (x11 := x11) (x12 := x12) (x13 := x13) (x14 := some (.sh (.tup [KV2 ((m.filter fun e => !decide (e.1 = q)) ++ [(p, v)]), PV (mv l q p)]))) (x16 := x16) (x18 := x18) (x19 := x19)
  -- the names
  have kn : (OT.oR false (DN nm)).keysI = some ((nm.map (·.1)).map Val.int) := by show some ((DN _).map (·.1)) = _; rw [keys_DN]
  have d2 := compS_map (W := W0) (s := u) (ρ := [a0, some (.sh (dsV ds)), some (.sh (KV2 m)), some (.sh (PV l)), some (.oR false (DN nm)), a5, some (.sh (.int i)), some (.sh (.int (10 + 5 * i))), some (.sh (.lst ((sortP (m.map (·.1))).map pv))), some (.sh (pv p)), x10, x11, y12, x13, some (.sh (.tup [KV2 ((m.filter fun e => !decide (e.1 = q)) ++ [(p, v)]), PV (mv l q p)])), some (.oT [.oD true (encP.d (MK m q p)), .oD true (encP.d (MP m l q p))]), x16, some (.sh (pv q)), y18, x19]) (vs := [12]) (i := 12) (t := tTrue) (f := eTup (eCons (eP (pVar 12)) (eCons (eP (pIx (pE (eF (fLst (eCons (eDg (pVar 4) (eP (pVar 12))) (eCons (eP (pVar 9)) eNil))))) (eCl gInt (eCons (VL.e2 gEq (eDg (pVar 4) (eP (pVar 12))) (bP (pVar 17))) eNil)))) eNil)))
    (fun v => (fun _ => true) (nmAt nm (uni v))) (fun v => .tup [v, (fun x => pv (sw q p x)) (nmAt nm (uni v))]) (xs := (nm.map (·.1)).map Val.int) (acc := []) (fun x hx => rfl) (fun x hx _ => by
      obtain ⟨y, hy, rfl⟩ := List.mem_map.mp hx
      have h2 : dgO (.oR false (DN nm)) (.int y) = some (some (pv (nmAt nm y))) := dg_DN R.nb.nn hy
      have e5 := gEq_pv (nmAt nm y) q
      obtain ⟨c, ec, ei⟩ := swap_ix (a := nmAt nm y) (p := p) (q := q)
      have gi : gInt [.bl (decide (nmAt nm y = q))] = some (.int c) := by rw [← ec]; rfl
      generalize decide (nmAt nm y = q) = bb at e5 gi
      simp [wipeE, h2, small, z6, e5, gi, ei]) (by rw [List.length_map, List.length_map, sizeLine_eq]; simp; omega)
  rw [names_list R.nb.nn (fun _ => true) (fun x => pv (sw q p x)), List.nil_append, List.filter_eq_self.mpr fun _ _ => rfl] at d2
  have g2 := pairs_of encI (L := nm.map fun e => (e.1, pv (sw q p e.2))) (by rw [List.map_map]; exact R.nb.nn)
  have e8 : encI.d (nm.map fun e => (e.1, pv (sw q p e.2))) = DN (nm.map fun e => (e.1, sw q p e.2)) := by unfold DN; rw [List.map_map]; rfl
  rw [e8] at g2
  have g2 : gPairs false (.sh (.lst ((nm.map fun e => (e.1, pv (sw q p e.2))).map fun e => Val.tup [encI.e e.1, e.2]))) = some (.oD false (DN (nm.map fun e => (e.1, sw q p e.2)))) := g2
  generalize hK : (nm.map (·.1)).map Val.int = Kn at kn d2
  generalize hK2 : (m.map (·.1)).map pv = K2 at k2 row
  generalize hG2 : ((nm.map fun e => (e.1, pv (sw q p e.2))).map fun e => Val.tup [encI.e e.1, e.2]) = G2 at d2 g2
  generalize hL : (sortP (m.map (·.1))) = L at *
  refine ⟨y12, y18, ?_⟩
  unfold tMovFor at row
  unfold tMov
  simp [ec, eo, gk, w, k2, small, z6, row, kn, d2, g2]
end K04

/-! K04o: a turn's end. -/
namespace K04
open PySem PySem.Spec PyProof.Rows L2 VL
variable {u : W0.S}
theorem dg_DB {bn : List (Int × List Int)} {a : Int} {ts : List Int} (h : getL bn a = some ts) : dgO (.oD false (DB bn)) (.int a) = some (some (.lst (ts.map .int))) := by
  have := (encI.dget a (bn.map fun e => (e.1, Val.lst (e.2.map .int)))).trans (congrArg some (getL_map (fun ts : List Int => Val.lst (ts.map .int)) a bn))
  rw [h] at this
  exact this
theorem in_DN (nm : List (Int × PP)) (a : Int) : gInD false (.int a) (.dic false (DN nm)) = some (.bl (inD nm a)) := by
  have e : (nm.map fun e => (e.1, pv e.2)).map (·.1) = nm.map (·.1) := by rw [List.map_map]; rfl
  have h := gInD_of encI a (nm.map fun e => (e.1, pv e.2))
  rw [e] at h
  have h : gInD false (.int a) (.dic false (DN nm)) = _ := h
  rw [h]
  unfold inD
  congr
theorem chkrow {l : Fo} {nm bn} {i n : Nat} {r : PP → Nat} (F : Fst l n r) (hn : n < 900) (N : NB l nm bn i) {a0 a1 a2 x6 x7 x8 x9 x10 x11 x12 x13 x14 x15 x16 x17 x18 x19 : Option OT} :
    ∃ y12 y16, forS (puN 12) tLkFor ((nm.map (·.1)).map Val.int) [a0, a1, a2, some (.sh (PV l)), some (.oR false (DN nm)), some (.oD false (DB bn)), x6, x7, x8, x9, x10, x11, x12, x13, x14, x15, x16, x17, x18, x19] u =
      (.nx [a0, a1, a2, some (.sh (PV l)), some (.oR false (DN nm)), some (.oD false (DB bn)), x6, x7, x8, x9, x10, x11, y12, x13, x14, x15, y16, x17, x18, x19] u : Out W0.S) := by
  have zz : ∀ k : Nat, k ≤ 1000 → k ≤ sizeLine := fun k h => by rw [sizeLine_eq]; omega
  obtain ⟨ρ2, s2, row, rfl, y12, y16, hρ⟩ := forS_inv (W := W0) (p := puN 12) (b := tLkFor)
    (fun j ρ s => u = s ∧ ∃ y12 y16, ρ = [a0, a1, a2, some (.sh (PV l)), some (.oR false (DN nm)), some (.oD false (DB bn)), x6, x7, x8, x9, x10, x11, y12, x13, x14, x15, y16, x17, x18, x19])
    (xs := (nm.map (·.1)).map Val.int) (n := 0) (ρ := [a0, a1, a2, some (.sh (PV l)), some (.oR false (DN nm)), some (.oD false (DB bn)), x6, x7, x8, x9, x10, x11, x12, x13, x14, x15, x16, x17, x18, x19]) (s := u) ⟨rfl, x12, x16, rfl⟩ (by
      rintro j x ρ s hx ⟨rfl, y12, y16, rfl⟩
      obtain ⟨a, ha, rfl⟩ := List.mem_map.mp (List.mem_of_getElem? hx)
      obtain ⟨⟨a', w⟩, hw, rfl⟩ := List.mem_map.mp ha
      obtain ⟨ts, h1, h2⟩ := N.same F hn hw
      have lts := N.bs _ (getL_some h1)
      have e1 := dg_DB h1
      have e2 : dgO (.oR false (DN nm)) (.int a') = some (some (pv w)) := by
        have := dg_DN N.nn (a := a') (List.mem_map.mpr ⟨_, hw, rfl⟩)
        rw [nmAt_mem N.nn hw] at this
        exact this
      have hwk : w ∈ ks l := N.np.mem_iff.mp (List.mem_map.mpr ⟨_, hw, rfl⟩)
      have e3 := up_run (u := u) F hn hwk
      have c1 := compS_map (W := W0) (s := u) (ρ := [a0, a1, a2, some (.sh (PV l)), some (.oR false (DN nm)), some (.oD false (DB bn)), x6, x7, x8, x9, x10, x11, some (.sh (.int a')), x13, x14, x15, y16, x17, x18, x19]) (vs := [19]) (i := 19) (t := tst (VL.e2 (gInD false) (bP (pVar 19)) (bP (pVar 4)))) (f := eP (pVar 19))
        (fun v => inD nm (uni v)) (fun v => v) (xs := ts.map Val.int) (acc := []) (fun x hx => by
          obtain ⟨y, hy, rfl⟩ := List.mem_map.mp hx
          have h := in_DN nm y
          simp [wipeE, h]) (fun x _ _ => by simp [wipeE]) (by
            rw [List.length_map]; simp; exact zz _ (by have : (a', ts).2.length ≤ 100 := lts; simp only at this; omega))
      rw [filter_int] at c1
      simp only [List.nil_append, uni_int] at c1
      generalize hT : (ts.filter fun b => inD nm b) = T at *
      have lT : T.length ≤ 100 := by
        rw [← hT]
        refine Nat.le_trans (List.length_filter_le _ _) ?_
        exact lts
      have inT : ∀ b ∈ T, b ∈ nm.map (·.1) := fun b hb => by
        rw [← hT] at hb
        exact of_decide_eq_true (List.mem_filter.mp hb).2
      have c2 := compS_map (W := W0) (s := u) (ρ := [a0, a1, a2, some (.sh (PV l)), some (.oR false (DN nm)), some (.oD false (DB bn)), x6, x7, x8, x9, x10, x11, some (.sh (.int a')), x13, x14, x15, some (.sh (.lst (T.map .int))), x17, x18, x19]) (vs := [19]) (i := 19) (t := tTrue) (f := eDg (pVar 4) (eP (pVar 19)))
        (fun v => true) (fun v => pv (nmAt nm (uni v))) (xs := T.map Val.int) (acc := []) (fun x hx => rfl) (fun x hx _ => by
          obtain ⟨y, hy, rfl⟩ := List.mem_map.mp hx
          have h : dgO (.oR false (DN nm)) (.int y) = some (some (pv (nmAt nm y))) := dg_DN N.nn (inT y hy)
          simp [wipeE, h]) (by rw [List.length_map]; simp; exact zz _ (by omega))
      have e4 : ((T.map Val.int).filter fun v => true).map (fun v => pv (nmAt nm (uni v))) = (T.map (nmAt nm)).map pv := by
        rw [List.filter_eq_self.mpr fun _ _ => rfl, List.map_map, List.map_map]; rfl
      rw [e4, List.nil_append] at c2
      have s1 : gSortL (.sh (.lst ((T.map (nmAt nm)).map pv))) = some (.oL ((sortP (up l w)).map pv)) := by
        show (sortL _).map OT.oL = _
        rw [sortL_pv (zz _ (by rw [List.length_map]; omega)), h2]; rfl
      have lu : (up l w).length ≤ 1000 := by
        have := F.up_len hn w
        have := F.bd w hwk
        omega
      have s2 : gSortL (.sh (.lst ((up l w).map pv))) = some (.oL ((sortP (up l w)).map pv)) := by
        show (sortL _).map OT.oL = _
        rw [sortL_pv (zz _ lu)]; rfl
      have n1 := gNe_pvs (sortP (up l w)) (sortP (up l w))
      rw [decide_eq_true rfl] at n1
      generalize (T.map (nmAt nm)).map pv = T2 at c2 s1
      generalize T.map Val.int = T1 at c1 c2
      generalize ts.map Val.int = T0 at e1 c1
      refine ⟨_, rfl, [a0, a1, a2, some (.sh (PV l)), some (.oR false (DN nm)), some (.oD false (DB bn)), x6, x7, x8, x9, x10, x11, some (.sh (.int a')), x13, x14, x15, some (.sh (.lst T1)), x17, x18, x19], u, .inl ?_, rfl, _, _, rfl⟩
      clear hx
      unfold tLkFor
      simp [e1, c1, c2, s1, e2, e3, s2, n1])
  subst hρ
  exact ⟨y12, y16, row⟩
theorem end_run {m m' : List (PP × Val)} {l l' : Fo} {nm bn} {i n : Nat} {r : PP → Nat} (F : Fst l' n r) (hn : n < 900) (hl : l'.length ≤ 900) (hp : (m'.map (·.1)).Perm (ks l')) (N : NB l' nm bn i) {x : Str} (hx : gRepr [.tup [KV2 m, PV l]] = some (.str x)) {t15 : OT} {v15 : Val} (hv : t15.val = v15) (hg : gNe (.tup [KV2 m', PV l']) v15 = some (.bl false))
    {a0 a1 x6 x7 x8 x9 x10 x12 x13 x16 x17 x18 x19 : Option OT} :
    ∃ y12 y16, (cSeq tChk (cSeq tAsg tLk)) [a0, a1, some (.sh (KV2 m)), some (.sh (PV l)), some (.oD false (DN nm)), some (.oD false (DB bn)), x6, x7, x8, x9, x10, some (.sh (.str x)), x12, x13, some (.sh (.tup [KV2 m', PV l'])), some t15, x16, x17, x18, x19] u =
      (.nx [a0, a1, some (.sh (KV2 m')), some (.sh (PV l')), some (.oD false (DN nm)), some (.oD false (DB bn)), x6, x7, x8, x9, x10, some (.sh (.str x)), y12, x13, some (.sh (.tup [KV2 m', PV l'])), some t15, y16, x17, x18, x19] u : Out W0.S) := by
  have rr := right_run (u := u) F hn hl hp
  have i0 : ixO (.sh (.tup [KV2 m', PV l'])) (.int 0) = some (.sh (KV2 m')) := rfl
  have i1 : ixO (.sh (.tup [KV2 m', PV l'])) (.int 1) = some (.sh (PV l')) := rfl
  have z6 : 2 ≤ sizeLine := by rw [sizeLine_eq]; omega
  have n1 := gNe_str x
  have kn : (OT.oR false (DN nm)).keysI = some ((nm.map (·.1)).map Val.int) := by show some ((DN _).map (·.1)) = _; rw [keys_DN]
  obtain ⟨y12, y16, row⟩ := chkrow (u := u) F hn N (a0 := a0) (a1 := a1) (a2 := some (.sh (KV2 m'))) (x6 := x6) (x7 := x7) (x8 := x8) (x9 := x9) (x10 := x10) (x11 := some (.sh (.str x))) (x12 := x12) (x13 := x13) (x14 := some (.sh (.tup [KV2 m', PV l']))) (x15 := some t15) (x16 := x16) (x17 := x17) (x18 := x18) (x19 := x19)
  generalize hK : (nm.map (·.1)).map Val.int = Kn at kn row
  refine ⟨y12, y16, ?_⟩
  unfold tChk tAsg tLk
  simp [hv, hg, small, z6, hx, n1, i0, i1, rr, kn, row]
end K04

/-! K04q: a turn. -/
namespace K04
open PySem PySem.Spec PyProof.Rows L2 VL
variable {u : W0.S}
theorem GD_app {m : List (PP × Val)} {p : PP} {v : Val} (g : GD m) (hz : m.length + 1 ≤ 100) (hp : p ∈ grid) (hv : Good v) : GD (m ++ [(p, v)]) := by
  refine ⟨by rw [List.length_append]; simp; omega, fun e he => ?_⟩
  rcases List.mem_append.mp he with he | he
  · exact g.2 e he
  · rw [List.mem_singleton] at he; subst he; exact ⟨hp, hv⟩
theorem GD_filter {m : List (PP × Val)} {P : PP × Val → Bool} (g : GD m) : GD (m.filter P) :=
  ⟨Nat.le_trans (List.length_filter_le _ _) g.1, fun e he => g.2 e (List.mem_filter.mp he).1⟩
theorem gNe_self {a a2 : List (PP × Val)} (g : GD a) (g2 : GD a2) (n : (a.map (·.1)).Nodup) (n2 : (a2.map (·.1)).Nodup) : gNe (.tup [KV2 a, KV2 a2]) (.tup [KV2 a, KV2 a2]) = some (.bl false) :=
  gNe_two g g2 g g2 rfl rfl (fun e he => getL_of_mem n (k := e.1) (v := e.2) he) (fun e he => getL_of_mem n2 (k := e.1) (v := e.2) he)
theorem PL_keys (l : Fo) : (PL l).map (·.1) = ks l := by unfold PL ks; rw [List.map_map]; rfl
theorem ri_add {m l nm bn i} (R : Ri m l nm bn i) (hi : i < 23) {p : PP} (hg : p ∈ grid) (hp : p ∉ ks l) {o : Option PP} (ho : ∀ q, o = some q → q ∈ ks l) :
    Ri (m ++ [(p, page i)]) (l ++ [(p, o)]) (nm ++ [((i : Int), p)]) (bn ++ [((i : Int), born l (nm ++ [((i : Int), p)]) o)]) (i + 1) := by
  obtain ⟨n, r, F, hn⟩ := R.ex
  have hml : m.length = l.length := by have := R.mp.length_eq; unfold ks at this; simpa using this
  have hnl : nm.length = l.length := by have := R.nb.np.length_eq; unfold ks at this; simpa using this
  have hlz := R.lz
  refine ⟨?_, GD_app R.gd (by omega) hg (good_page hi), fun q hq => ?_, ⟨_, _, Fst_app F hp ho, by omega⟩, by rw [List.length_append]; simp; omega, R.nb.add F (by omega) (by omega) hp ho⟩
  · rw [List.map_append, ks_app]
    exact R.mp.append (List.Perm.refl _)
  · rw [ks_app] at hq
    rcases List.mem_append.mp hq with hq | hq
    · exact R.gr q hq
    · rw [List.mem_singleton] at hq; exact hq ▸ hg
theorem ri_del {m l nm bn i} (R : Ri m l nm bn i) (hi : i < 23) {q : PP} : Ri (m.filter fun e => !decide (e.1 = q)) (del l q) (nm.filter fun e => !decide (e.2 = q)) bn (i + 1) := by
  obtain ⟨n, r, F, hn⟩ := R.ex
  have hlz := R.lz
  refine ⟨?_, GD_filter R.gd, fun p hp => ?_, ⟨_, _, Fst_del F, by omega⟩, ?_, R.nb.del F (by omega)⟩
  · rw [ks_del]
    have := R.mp.filter (fun y => !decide (y = q))
    rw [List.filter_map] at this
    exact this
  · rw [ks_del] at hp
    exact R.gr p (List.mem_filter.mp hp).1
  · have : (del l q).length ≤ l.length := by
      unfold del
      rw [List.length_map]
      exact List.length_filter_le _ _
    omega
theorem sw_grid {q p x : PP} (hp : p ∈ grid) (hx : x ∈ grid) : sw q p x ∈ grid := by
  unfold sw
  split
  · exact hp
  · exact hx
theorem mov_perm {m : List (PP × Val)} {l : Fo} (hm : (m.map (·.1)).Perm (ks l)) (hn : (ks l).Nodup) {q p : PP} (hq : q ∈ ks l) (hp : p ∉ ks l) {v : Val} : (((m.filter fun e => !decide (e.1 = q)) ++ [(p, v)]).map (·.1)).Perm (ks (mv l q p)) := by
  have hmn : (m.map (·.1)).Nodup := hm.nodup_iff.mpr hn
  refine perm_of ?_ (nd_mv hn hp) fun a => ?_
  · rw [List.map_append]
    refine nodup_app1 (nodup_filter_fst hmn) fun z => ?_
    obtain ⟨e, he, h⟩ := List.mem_map.mp z
    exact hp (hm.mem_iff.mp (List.mem_map.mpr ⟨e, (List.mem_filter.mp he).1, h⟩))
  · rw [ks_mv2, List.map_append, List.mem_append]
    constructor
    · rintro (h | h)
      · obtain ⟨e, he, rfl⟩ := List.mem_map.mp h
        obtain ⟨he, h2⟩ := List.mem_filter.mp he
        have h2 : e.1 ≠ q := by simpa using h2
        exact List.mem_map.mpr ⟨e.1, hm.mem_iff.mp (List.mem_map.mpr ⟨e, he, rfl⟩), by unfold sw; rw [if_neg h2]⟩
      · have h : a = p := by simpa using h
        exact List.mem_map.mpr ⟨q, hq, by unfold sw; rw [if_pos rfl, h]⟩
    · intro h
      obtain ⟨x, hx, rfl⟩ := List.mem_map.mp h
      by_cases h : x = q
      · exact .inr (by unfold sw; rw [if_pos h]; simp)
      · obtain ⟨e, he, rfl⟩ := List.mem_map.mp (hm.mem_iff.mpr hx)
        exact .inl (List.mem_map.mpr ⟨e, List.mem_filter.mpr ⟨he, by simpa using h⟩, by unfold sw; rw [if_neg h]⟩)
theorem ri_mov {m l nm bn i} (R : Ri m l nm bn i) (hi : i < 23) {q p : PP} (hg : p ∈ grid) (hq : q ∈ ks l) (hp : p ∉ ks l) {v : Val} (hv : getL m q = some v) :
    Ri ((m.filter fun e => !decide (e.1 = q)) ++ [(p, v)]) (mv l q p) (nm.map fun e => (e.1, sw q p e.2)) bn (i + 1) := by
  obtain ⟨n, r, F, hn⟩ := R.ex
  have hml : m.length = l.length := by have := R.mp.length_eq; unfold ks at this; simpa using this
  have hlz := R.lz
  have hf : (m.filter fun e => !decide (e.1 = q)).length ≤ m.length := List.length_filter_le _ _
  refine ⟨mov_perm R.mp F.nd hq hp, GD_app (GD_filter R.gd) (by omega) hg (R.gd.2 _ (getL_some hv)).2, fun x hx => ?_, ⟨_, _, Fst_mv F hq hp, by omega⟩, by unfold mv; rw [List.length_map]; omega, R.nb.mov F (by omega) hq hp⟩
  rw [ks_mv2] at hx
  obtain ⟨y, hy, rfl⟩ := List.mem_map.mp hx
  exact sw_grid hg (R.gr y hy)
theorem mov_same {m l nm bn i} (R : Ri m l nm bn i) (hi : i < 23) {q p : PP} (hg : p ∈ grid) (hq : q ∈ ks l) (hp : p ∉ ks l) {v : Val} (hv : getL m q = some v) :
    gNe (.tup [KV2 ((m.filter fun e => !decide (e.1 = q)) ++ [(p, v)]), PV (mv l q p)]) (.tup [KV2 (MK m q p), KV2 (MP m l q p)]) = some (.bl false) := by
  have R2 := ri_mov R hi hg hq hp hv
  obtain ⟨n, r, F, hn⟩ := R.ex
  have hmn : (m.map (·.1)).Nodup := R.mp.nodup_iff.mpr F.nd
  have hml : m.length = l.length := by have := R.mp.length_eq; unfold ks at this; simpa using this
  have hlz := R.lz
  have swn : ((m.map (·.1)).map (sw q p)).Nodup := nodup_on (fun a ha b hb e => sw_inj hp (R.mp.mem_iff.mp ha) (R.mp.mem_iff.mp hb) e) hmn
  have nk : ((MK m q p).map (·.1)).Nodup := by rw [MK_keys]; exact swn
  have np : ((MP m l q p).map (·.1)).Nodup := by rw [MP_keys]; exact swn
  have kg : ∀ e ∈ m, sw q p e.1 ∈ grid := fun e he => sw_grid hg (R.gd.2 e he).1
  refine gNe_two R2.gd (R2.gp (by omega)) ⟨by unfold MK; rw [List.length_map]; omega, fun e he => ?_⟩ ⟨by unfold MP; rw [List.length_map]; omega, fun e he => ?_⟩ ?_ ?_ (fun e he => ?_) (fun e he => ?_)
  · obtain ⟨e', h, rfl⟩ := List.mem_map.mp he
    exact ⟨kg e' h, (R.gd.2 e' h).2⟩
  · obtain ⟨e', h, rfl⟩ := List.mem_map.mp he
    refine ⟨kg e' h, ?_⟩
    show Good (ov ((par l e'.1).map (sw q p)))
    cases hpa : par l e'.1 with
    | none => exact good_none
    | some w => exact good_pv (sw_grid hg (R.gr w (F.par_cl hpa).1))
  · have h1 := R2.mp.length_eq
    rw [ks_mv2, List.length_map, List.length_map] at h1
    unfold MK
    rw [List.length_map, h1, ← R.mp.length_eq, List.length_map]
  · show ((mv l q p).map fun p => (p.1, ov p.2)).length = _
    unfold MP mv
    rw [List.length_map, List.length_map, List.length_map, hml]
  · refine getL_of_mem nk ?_
    rcases List.mem_append.mp he with he | he
    · obtain ⟨he, h2⟩ := List.mem_filter.mp he
      have h2 : e.1 ≠ q := by simpa using h2
      exact List.mem_map.mpr ⟨e, he, by unfold sw; rw [if_neg h2]⟩
    · rw [List.mem_singleton] at he
      subst he
      exact List.mem_map.mpr ⟨(q, v), getL_some hv, by unfold sw; rw [if_pos rfl]⟩
  · refine getL_of_mem np ?_
    unfold PL at he
    rw [mv_eq, List.map_map] at he
    obtain ⟨⟨x, o⟩, hx, rfl⟩ := List.mem_map.mp he
    obtain ⟨e, he', hex⟩ := List.mem_map.mp (R.mp.mem_iff.mpr (List.mem_map.mpr ⟨_, hx, rfl⟩))
    have hex : e.1 = x := hex
    have po : par l x = o := by unfold par; rw [getL_of_mem F.nd hx]; rfl
    exact List.mem_map.mpr ⟨e, he', by rw [hex, po]; rfl⟩
end K04

/-! K04r: a turn; the law. -/
namespace K04
open PySem PySem.Spec PyProof.Rows L2 VL
variable {u : W0.S}
theorem add_ct {m : List (PP × Val)} {p : PP} (hp : p ∈ m.map (·.1)) {a0 a1 a3 a4 a5 x6 x7 x8 x10 x11 x12 x13 x14 x15 x16 x17 x18 x19 : Option OT} :
    tAdd [a0, a1, some (.sh (KV2 m)), a3, a4, a5, x6, x7, x8, some (.sh (pv p)), x10, x11, x12, x13, x14, x15, x16, x17, x18, x19] u = (.ct [a0, a1, some (.sh (KV2 m)), a3, a4, a5, x6, x7, x8, some (.sh (pv p)), x10, x11, x12, x13, x14, x15, x16, x17, x18, x19] u : Out W0.S) := by
  have gk := dget_K m p
  rw [decide_eq_true hp] at gk
  unfold tAdd
  simp [gk]
theorem mov_ct {ds : List Int} (hd : Dr ds) {m l nm bn} {i : Nat} (R : Ri m l nm bn i) (hi : i < 23) (hne : m ≠ []) {p : PP} (hp : p ∈ m.map (·.1)) {a0 a3 a4 a5 x10 x11 x12 x13 x14 x15 x16 x17 x18 x19 : Option OT} :
    ∃ y17, tMov [a0, some (.sh (dsV ds)), some (.sh (KV2 m)), a3, a4, a5, some (.sh (.int i)), some (.sh (.int (10 + 5 * i))), some (.sh (.lst ((sortP (m.map (·.1))).map pv))), some (.sh (pv p)), x10, x11, x12, x13, x14, x15, x16, x17, x18, x19] u = (.ct [a0, some (.sh (dsV ds)), some (.sh (KV2 m)), a3, a4, a5, some (.sh (.int i)), some (.sh (.int (10 + 5 * i))), some (.sh (.lst ((sortP (m.map (·.1))).map pv))), some (.sh (pv p)), x10, x11, x12, x13, x14, x15, x16, y17, x18, x19] u : Out W0.S) := by
  obtain ⟨q, hq, c, ec, eo⟩ := pick (u := u) hd R hi hne
  have gk := dget_K m p
  rw [decide_eq_true hp] at gk
  refine ⟨some (.sh (pv q)), ?_⟩
  generalize hL : (sortP (m.map (·.1))) = L at *
  unfold tMov
  simp [ec, eo, gk]
/-- what holds between turns -/
def In (ns ds : List Int) (i : Nat) (ρ : En) : Prop := ∃ m l nm bn x6 x7 x8 x9 x10 x11 x12 x13 x14 x15 x16 x17 x18 x19, Ri m l nm bn i ∧ ρ = [some (.sh (.wlst (ns.map .int))), some (.sh (dsV ds)), some (.sh (KV2 m)), some (.sh (PV l)), some (.oD false (DN nm)), some (.oD false (DB bn)), x6, x7, x8, x9, x10, x11, x12, x13, x14, x15, x16, x17, x18, x19]
theorem turn_run {ns ds : List Int} (hd : Dr ds) {i : Nat} (hi : i < 23) {ρ : En} (I : In ns ds i ρ) : ∃ ρ2, (tBody (ρ.set 6 (some (.sh (.int i)))) u = .nx ρ2 u ∨ tBody (ρ.set 6 (some (.sh (.int i)))) u = .ct ρ2 u) ∧ In ns ds (i + 1) ρ2 := by
  obtain ⟨m, l, nm, bn, x6, x7, x8, x9, x10, x11, x12, x13, x14, x15, x16, x17, x18, x19, R, rfl⟩ := I
  obtain ⟨p, hg, kd, x, hx, head⟩ := head_run (u := u) hd R hi (a0 := some (.sh (.wlst (ns.map .int)))) (a4 := some (.oD false (DN nm))) (a5 := some (.oD false (DB bn))) (x7 := x7) (x8 := x8) (x9 := x9) (x10 := x10) (x11 := x11) (x12 := x12) (x13 := x13) (x14 := x14) (x15 := x15) (x16 := x16) (x17 := x17) (x18 := x18) (x19 := x19)
  have head := head (cSeq tKind (cSeq tChk (cSeq tAsg tLk)))
  obtain ⟨n, r, F, hni⟩ := R.ex
  have hmn : (m.map (·.1)).Nodup := R.mp.nodup_iff.mpr F.nd
  have g0 : gEq (.lst ((sortP (m.map (·.1))).map pv)) (.lst []) = some (.bl (decide (sortP (m.map (·.1)) = []))) := gEq_pvs _ []
  have z0 : (0 : Nat) ≤ sizeLine := Nat.zero_le _
  unfold tBody
  simp only [List.set_cons_succ, List.set_cons_zero]
  rw [head]
  simp only [s_seq]
  by_cases hA : sortP (m.map (·.1)) = [] ∨ kd < 3
  · -- a key is put
    have kA : tKind [some (.sh (.wlst (ns.map .int))), some (.sh (dsV ds)), some (.sh (KV2 m)), some (.sh (PV l)), some (.oD false (DN nm)), some (.oD false (DB bn)), some (.sh (.int i)), some (.sh (.int (10 + 5 * i))), some (.sh (.lst ((sortP (m.map (·.1))).map pv))), some (.sh (pv p)), some (.sh (.int kd)), some (.sh (.str x)), x12, x13, x14, x15, x16, x17, x18, x19] u = tAdd [some (.sh (.wlst (ns.map .int))), some (.sh (dsV ds)), some (.sh (KV2 m)), some (.sh (PV l)), some (.oD false (DN nm)), some (.oD false (DB bn)), some (.sh (.int i)), some (.sh (.int (10 + 5 * i))), some (.sh (.lst ((sortP (m.map (·.1))).map pv))), some (.sh (pv p)), some (.sh (.int kd)), some (.sh (.str x)), x12, x13, x14, x15, x16, x17, x18, x19] u := by
      unfold tKind
      generalize hL : sortP (m.map (·.1)) = L at g0 hA ⊢
      by_cases h0 : L = []
      · rw [decide_eq_true h0] at g0
        simp [g0, small]
      · rw [decide_eq_false h0] at g0
        have h1 : kd < 3 := hA.resolve_left h0
        simp [g0, small, h1]
    rw [kA]
    by_cases hp : p ∈ ks l
    · rw [add_ct (R.mp.mem_iff.mpr hp)]
      exact ⟨_, .inr rfl, m, l, nm, bn, _, _, _, _, _, _, _, _, _, _, _, _, _, _, R.wait, rfl⟩
    · obtain ⟨o, ho, y12, run⟩ := add_run (u := u) hd R hi hg hp (a0 := some (.sh (.wlst (ns.map .int)))) (x10 := some (.sh (.int kd))) (x11 := some (.sh (.str x))) (x12 := x12) (x13 := x13) (x14 := x14) (x15 := x15) (x16 := x16) (x17 := x17) (x18 := x18) (x19 := x19)
      rw [run]
      have R2 := ri_add R hi hg hp ho
      obtain ⟨n2, r2, F2, hn2⟩ := R2.ex
      have gs := gNe_self R2.gd (R2.gp (by omega)) (R2.mp.nodup_iff.mpr F2.nd) (by rw [PL_keys]; exact F2.nd)
      obtain ⟨z12, z16, fin⟩ := end_run (u := u) F2 (by omega) (by have := R2.lz; omega) R2.mp R2.nb hx (t15 := .sh (.tup [KV2 (m ++ [(p, page i)]), PV (l ++ [(p, o)])])) rfl gs (a0 := some (.sh (.wlst (ns.map .int)))) (a1 := some (.sh (dsV ds))) (x6 := some (.sh (.int i))) (x7 := some (.sh (.int (10 + 5 * i)))) (x8 := some (.sh (.lst ((sortP (m.map (·.1))).map pv)))) (x9 := some (.sh (pv p))) (x10 := some (.sh (.int kd))) (x12 := y12) (x13 := some (.sh (ov o))) (x16 := x16) (x17 := x17) (x18 := x18) (x19 := x19)
      rw [s_nx, fin]
      exact ⟨_, .inl rfl, _, _, _, _, _, _, _, _, _, _, _, _, _, _, _, _, _, _, R2, rfl⟩
  · have hne0 : sortP (m.map (·.1)) ≠ [] := fun h => hA (.inl h)
    have hkd : ¬ kd < 3 := fun h => hA (.inr h)
    have hne : m ≠ [] := fun h => hne0 (List.length_eq_zero_iff.mp (by rw [(sortP_perm _).length_eq, h]; rfl))
    rw [decide_eq_false hne0] at g0
    by_cases hB : kd = 3
    · have kB : tKind [some (.sh (.wlst (ns.map .int))), some (.sh (dsV ds)), some (.sh (KV2 m)), some (.sh (PV l)), some (.oD false (DN nm)), some (.oD false (DB bn)), some (.sh (.int i)), some (.sh (.int (10 + 5 * i))), some (.sh (.lst ((sortP (m.map (·.1))).map pv))), some (.sh (pv p)), some (.sh (.int kd)), some (.sh (.str x)), x12, x13, x14, x15, x16, x17, x18, x19] u = tDel [some (.sh (.wlst (ns.map .int))), some (.sh (dsV ds)), some (.sh (KV2 m)), some (.sh (PV l)), some (.oD false (DN nm)), some (.oD false (DB bn)), some (.sh (.int i)), some (.sh (.int (10 + 5 * i))), some (.sh (.lst ((sortP (m.map (·.1))).map pv))), some (.sh (pv p)), some (.sh (.int kd)), some (.sh (.str x)), x12, x13, x14, x15, x16, x17, x18, x19] u := by
        have g3 := gEq_int kd 3
        rw [decide_eq_true hB] at g3
        unfold tKind
        generalize hL : sortP (m.map (·.1)) = L at g0 ⊢
        simp [g0, small, hkd, g3]
      rw [kB]
      obtain ⟨q, hq, y12, run⟩ := del_run (u := u) hd R hi hne (a0 := some (.sh (.wlst (ns.map .int)))) (a5 := some (.oD false (DB bn))) (x9 := some (.sh (pv p))) (x10 := some (.sh (.int kd))) (x11 := some (.sh (.str x))) (x12 := x12) (x13 := x13) (x14 := x14) (x15 := x15) (x16 := x16) (x17 := x17) (x18 := x18) (x19 := x19)
      rw [run]
      have R2 := ri_del R hi (q := q)
      obtain ⟨n2, r2, F2, hn2⟩ := R2.ex
      have gs := gNe_self R2.gd (R2.gp (by omega)) (R2.mp.nodup_iff.mpr F2.nd) (by rw [PL_keys]; exact F2.nd)
      obtain ⟨z12, z16, fin⟩ := end_run (u := u) F2 (by omega) (by have := R2.lz; omega) R2.mp R2.nb hx (t15 := .oT [.oD true (encP.d (m.filter fun e => !decide (e.1 = q))), .oD true (encP.d (PL (del l q)))]) rfl gs (a0 := some (.sh (.wlst (ns.map .int)))) (a1 := some (.sh (dsV ds))) (x6 := some (.sh (.int i))) (x7 := some (.sh (.int (10 + 5 * i)))) (x8 := some (.sh (.lst ((sortP (m.map (·.1))).map pv)))) (x9 := some (.sh (pv p))) (x10 := some (.sh (.int kd))) (x12 := y12) (x13 := x13) (x16 := x16) (x17 := some (.sh (pv q))) (x18 := x18) (x19 := x19)
      rw [s_nx, fin]
      exact ⟨_, .inl rfl, _, _, _, _, _, _, _, _, _, _, _, _, _, _, _, _, _, _, R2, rfl⟩
    · have kC : tKind [some (.sh (.wlst (ns.map .int))), some (.sh (dsV ds)), some (.sh (KV2 m)), some (.sh (PV l)), some (.oD false (DN nm)), some (.oD false (DB bn)), some (.sh (.int i)), some (.sh (.int (10 + 5 * i))), some (.sh (.lst ((sortP (m.map (·.1))).map pv))), some (.sh (pv p)), some (.sh (.int kd)), some (.sh (.str x)), x12, x13, x14, x15, x16, x17, x18, x19] u = tMov [some (.sh (.wlst (ns.map .int))), some (.sh (dsV ds)), some (.sh (KV2 m)), some (.sh (PV l)), some (.oD false (DN nm)), some (.oD false (DB bn)), some (.sh (.int i)), some (.sh (.int (10 + 5 * i))), some (.sh (.lst ((sortP (m.map (·.1))).map pv))), some (.sh (pv p)), some (.sh (.int kd)), some (.sh (.str x)), x12, x13, x14, x15, x16, x17, x18, x19] u := by
        have g3 := gEq_int kd 3
        rw [decide_eq_false hB] at g3
        unfold tKind
        generalize hL : sortP (m.map (·.1)) = L at g0 ⊢
        simp [g0, small, hkd, g3]
      rw [kC]
      by_cases hp : p ∈ ks l
      · obtain ⟨y17, e⟩ := mov_ct (u := u) hd R hi hne (R.mp.mem_iff.mpr hp) (a0 := some (.sh (.wlst (ns.map .int)))) (a3 := some (.sh (PV l))) (a4 := some (.oD false (DN nm))) (a5 := some (.oD false (DB bn))) (x10 := some (.sh (.int kd))) (x11 := some (.sh (.str x))) (x12 := x12) (x13 := x13) (x14 := x14) (x15 := x15) (x16 := x16) (x17 := x17) (x18 := x18) (x19 := x19)
        rw [e]
        exact ⟨_, .inr rfl, m, l, nm, bn, _, _, _, _, _, _, _, _, _, _, _, _, _, _, R.wait, rfl⟩
      · obtain ⟨q, hq, v, hv, y12, y18, run⟩ := mov_run (u := u) hd R hi hne hp (a0 := some (.sh (.wlst (ns.map .int)))) (a5 := some (.oD false (DB bn))) (x10 := some (.sh (.int kd))) (x11 := some (.sh (.str x))) (x12 := x12) (x13 := x13) (x14 := x14) (x15 := x15) (x16 := x16) (x17 := x17) (x18 := x18) (x19 := x19)
        rw [run]
        have R2 := ri_mov R hi hg hq hp hv
        obtain ⟨n2, r2, F2, hn2⟩ := R2.ex
        have gs := mov_same R hi hg hq hp hv
        obtain ⟨z12, z16, fin⟩ := end_run (u := u) F2 (by omega) (by have := R2.lz; omega) R2.mp R2.nb hx (t15 := .oT [.oD true (encP.d (MK m q p)), .oD true (encP.d (MP m l q p))]) rfl gs (a0 := some (.sh (.wlst (ns.map .int)))) (a1 := some (.sh (dsV ds))) (x6 := some (.sh (.int i))) (x7 := some (.sh (.int (10 + 5 * i)))) (x8 := some (.sh (.lst ((sortP (m.map (·.1))).map pv)))) (x9 := some (.sh (pv p))) (x10 := some (.sh (.int kd))) (x12 := y12) (x13 := x13) (x16 := x16) (x17 := some (.sh (pv q))) (x18 := y18) (x19 := x19)
        rw [s_nx, fin]
        exact ⟨_, .inl rfl, _, _, _, _, _, _, _, _, _, _, _, _, _, _, _, _, _, _, R2, rfl⟩
end K04

/-! K04s: what the law answers. -/
namespace K04
open PySem PySem.Spec PyProof.Rows L2 VL
variable {u : W0.S}
theorem putAll_puts {κ : Type} [DecidableEq κ] (E : Enc κ) : ∀ (L : List (κ × Val)) (acc : List (Val × Val)), acc.length + L.length ≤ 1000 → putAllV E.b (E.d L) acc = some (putsV acc (E.d L))
  | [], acc, _ => rfl
  | e :: L, acc, h => by
    rw [List.length_cons] at h
    have hz : acc.length < sizeLine := by rw [sizeLine_eq]; omega
    show (match dkey (E.e e.1) with
      | some d => if DK.isT d = E.b ∧ acc.length < sizeLine then putAllV E.b (E.d L) (vput acc (E.e e.1) d e.2) else none
      | none => none) = some (putsV acc ((E.e e.1, e.2) :: E.d L))
    rw [E.key]
    show (if DK.isT (E.c e.1) = E.b ∧ acc.length < sizeLine then _ else none) = _
    have := vput_len acc (E.e e.1) (E.c e.1) e.2
    rw [if_pos ⟨E.isT _, hz⟩, putAll_puts E L _ (by omega)]
    unfold putsV
    rw [List.foldl_cons, E.key]
theorem putAll_of {κ : Type} [DecidableEq κ] (E : Enc κ) {L : List (κ × Val)} (h : (L.map (·.1)).Nodup) (hz : L.length ≤ 1000) : putAllV E.b (E.d L) [] = some (E.d L) := by
  rw [putAll_puts E L [] (by simpa using hz), puts0 E h]
def la : Fo := [((0, 0), none)]
def lb : Fo := [((0, 0), none), ((0, 1), some (0, 0))]
def lc : Fo := [((0, 1), none)]
def mb : List (PP × Val) := [((0, 0), .int 1), ((0, 1), .int 2)]
def mc : List (PP × Val) := [((0, 1), .int 2)]
def r0 (p : PP) : Nat := p.2.toNat
theorem Fa : Fst la 1 r0 := ⟨by decide, fun p q h => by simp [la] at h, fun p h => by
  have : p = (0, 0) := by simpa [ks, la] using h
  subst this; decide⟩
theorem Fb : Fst lb 1 r0 := ⟨by decide, fun p q h => by
  have h2 : p = (0, 1) ∧ q = (0, 0) := by simpa [lb] using h
  obtain ⟨rfl, rfl⟩ := h2; decide, fun p h => by
  have : p = (0, 0) ∨ p = (0, 1) := by simpa [ks, lb] using h
  rcases this with rfl | rfl <;> decide⟩
theorem good_int (i : Int) (h : good (.int i) = true) : Good (.int i) := good_of h
theorem gda : GD mc := ⟨by decide, fun e he => by
  have : e = ((0, 1), .int 2) := by simpa [mc] using he
  subst this; exact ⟨by decide, good_of (by decide +kernel)⟩⟩
theorem gdc : GD (PL lc) := ⟨by decide, fun e he => by
  have : e = ((0, 1), .non) := by simpa [PL, lc, ov] using he
  subst this; exact ⟨by decide, good_none⟩⟩
theorem fin_run {ρ : En} : tFin ρ u = (.rt (.sh (.bl true)) u : Out W0.S) := by
  have c1 := came_run (u := u) Fa (by omega) (by decide) (p := (0, 0))
  have d0 : desc la (0, 0) = [] := by decide +kernel
  have s0 : sortP [] = [] := List.length_eq_zero_iff.mp (by rw [(sortP_perm _).length_eq]; rfl)
  rw [d0, s0] at c1
  have w := without_run (u := u) Fb (by decide) (m := mb) (by decide) (by decide) (p := (0, 0)) (by decide)
  have e1 : (mb.filter fun e => !decide (e.1 = (0, 0))) = mc := rfl
  have e2 : del lb (0, 0) = lc := by decide +kernel
  rw [e1, e2] at w
  have p1 : putAllV true [(.tup [.int 0, .int 0], .non)] [] = some [(.tup [.int 0, .int 0], .non)] := putAll_of encP (L := [((0, 0), .non)]) (by decide) (by decide)
  have p2 : putAllV true [(.tup [.int 0, .int 0], .int 1), (.tup [.int 0, .int 1], .int 2)] [] = some [(.tup [.int 0, .int 0], .int 1), (.tup [.int 0, .int 1], .int 2)] := putAll_of encP (L := mb) (by decide) (by decide)
  have p3 : putAllV true [(.tup [.int 0, .int 0], .non), (.tup [.int 0, .int 1], .tup [.int 0, .int 0])] [] = some [(.tup [.int 0, .int 0], .non), (.tup [.int 0, .int 1], .tup [.int 0, .int 0])] := putAll_of encP (L := PL lb) (by decide) (by decide)
  have p4 : putAllV true [(.tup [.int 0, .int 1], .int 2)] [] = some [(.tup [.int 0, .int 1], .int 2)] := putAll_of encP (L := mc) (by decide) (by decide)
  have p5 : putAllV true [(.tup [.int 0, .int 1], .non)] [] = some [(.tup [.int 0, .int 1], .non)] := putAll_of encP (L := PL lc) (by decide) (by decide)
  have c1 : F_came_of [.dic true [(.tup [.int 0, .int 0], .non)], .tup [.int 0, .int 0]] u = .ok (.oL []) u := c1
  have w : F_without_slot [.dic true [(.tup [.int 0, .int 0], .int 1), (.tup [.int 0, .int 1], .int 2)], .dic true [(.tup [.int 0, .int 0], .non), (.tup [.int 0, .int 1], .tup [.int 0, .int 0])], .tup [.int 0, .int 0]] u = .ok (.sh (.tup [.dic true [(.tup [.int 0, .int 1], .int 2)], .dic true [(.tup [.int 0, .int 1], .non)]])) u := w
  have g1 : gEq (.lst []) (.lst []) = some (.bl true) := by
    have := gEq_pvs [] []
    rw [decide_eq_true rfl] at this
    exact this
  have g2 : gEq (.tup [.dic true [(.tup [.int 0, .int 1], .int 2)], .dic true [(.tup [.int 0, .int 1], .non)]]) (.tup [.dic true [(.tup [.int 0, .int 1], .int 2)], .dic true [(.tup [.int 0, .int 1], .non)]]) = some (.bl true) :=
    gEq_two gda gdc gda gdc rfl rfl (fun e he => getL_of_mem (by decide) (k := e.1) (v := e.2) he) (fun e he => getL_of_mem (by decide) (k := e.1) (v := e.2) he)
  have z0 : (0 : Nat) ≤ sizeLine := Nat.zero_le _
  have z2 : 2 ≤ sizeLine := by rw [sizeLine_eq]; omega
  unfold tFin
  simp [small, z0, z2, p1, p2, p3, p4, p5, c1, w, g1, g2]
theorem law_run (ns : List Int) : F_law [.wlst (ns.map .int)] u = .ok (.sh (.bl true)) u := by
  obtain ⟨ds, hd, e1⟩ := draws_run (W := W0) (u := u) ns
  have e1 : F__law_draws [.wlst (ns.map .int)] u = .ok (.oL (ds.map .int)) u := e1
  obtain ⟨c, c0, c1, e2⟩ := mix (u := u) hd (k := 0) (m := 23) (by decide) (by decide) (by decide)
  have z0 : (0 : Nat) ≤ sizeLine := Nat.zero_le _
  have s62 : small62 c = true := by unfold small62; simp; omega
  obtain ⟨ρ2, s2, row, rfl, _⟩ := forS_inv (W := W0) (p := puN 6) (b := tBody) (fun i ρ s => u = s ∧ In ns ds i ρ)
    (xs := rngI 0 c.toNat) (n := 0) (ρ := [some (.sh (.wlst (ns.map .int))), some (.sh (dsV ds)), some (.sh (KV2 [])), some (.sh (PV [])), some (.oD false (DN [])), some (.oD false (DB [])), none, none, none, none, none, none, none, none, none, none, none, none, none, none]) (s := u)
    ⟨rfl, [], [], [], [], _, _, _, _, _, _, _, _, _, _, _, _, _, _, ⟨List.Perm.refl _, ⟨by decide, by simp⟩, by simp [ks], ⟨0, fun _ => 0, ⟨by decide, by simp, by simp [ks]⟩, Nat.le_refl _⟩, Nat.le_refl _, ⟨by simp, List.Perm.refl _, by simp, by simp, by simp, by simp, by simp, by simp⟩⟩, rfl⟩ (by
      rintro i x ρ s hx ⟨rfl, I⟩
      rw [Nat.zero_add] at I ⊢
      unfold rngI at hx
      rw [List.getElem?_map] at hx
      have hi : i < c.toNat := by
        by_cases h : i < c.toNat
        · exact h
        · rw [List.getElem?_eq_none (by rw [List.length_range]; omega)] at hx
          cases hx
      rw [List.getElem?_range hi] at hx
      have hx : x = .int (i : Int) := by
        have := (Option.some.inj hx).symm
        rw [this]; simp
      subst hx
      obtain ⟨ρ3, h3, I3⟩ := turn_run (u := u) hd (by omega) I
      exact ⟨_, rfl, ρ3, u, h3, rfl, I3⟩)
  have fr := fin_run (u := u) (ρ := ρ2)
  unfold F_law cDef0 cDef
  rw [law_parts]
  have row : forS (puN 6) tBody (rngI 0 c.toNat) [some (.sh (.wlst (ns.map .int))), some (.sh (.lst (ds.map .int))), some (.sh (.dic true [])), some (.sh (.dic true [])), some (.oD false []), some (.oD false []), none, none, none, none, none, none, none, none, none, none, none, none, none, none] u = .nx ρ2 u := row
  have e2 : F__law_mix [.lst (ds.map .int), .int 0, .int 23] u = .ok (.sh (.int c)) u := e2
  generalize hD : ds.map Val.int = D at e1 e2 row
  generalize hN : ns.map Val.int = N at e1 row
  simp [enter, e1, e2, s62, row, fr]
end K04

/-! The head: what the top has written (printed by genhead.py). -/
namespace K04
open PySem PySem.Spec PyProof.Rows L2 VL
theorem all_mk {l : PySem.W.OpenLaw} {w : World} {K : PySem.W.Frag} {h : Heap} {mg : Str → Option Value} {fa f1 f2 f3 f4 f5 f6 f7 f8 f9 f10 f11 : Addr} (X : K.In h) (G : h.Ns mainGlobals mg) (hfa : mg "law" = some (.ref fa))
    {od1 an1 od2 an2 od3 an3 od4 an4 od5 an5 od6 an6 od7 an7 od8 an8 od9 an9 od10 an10 od11 an11 : Option Addr} {sl1 sl2 sl3 sl4 sl5 sl6 sl7 sl8 sl9 sl10 sl11 : Array (Option Value)} {oc1 kV1 dc1 pm1 cd1 ct1 oc2 kV2 dc2 pm2 cd2 ct2 oc3 kV3 dc3 pm3 cd3 ct3 oc4 kV4 dc4 pm4 cd4 ct4 oc5 kV5 dc5 pm5 cd5 ct5 oc6 kV6 dc6 pm6 cd6 ct6 oc7 kV7 dc7 pm7 cd7 ct7 oc8 kV8 dc8 pm8 cd8 ct8 oc9 kV9 dc9 pm9 cd9 ct9 oc10 kV10 dc10 pm10 cd10 ct10 oc11 kV11 dc11 pm11 cd11 ct11 : Value}
    (a1 : PySem.W.nsIn K mainGlobals "children_of" = some (some (.ref f1))) (l1 : K.lookup f1 = some ⟨oc1, od1, .func (PySem.W.fnOf "children_of" "children_of" (defArgs s_children_of) (defBody s_children_of) (defScope s_children_of) .none kV1 dc1 pm1 an1 cd1 ct1), sl1⟩) (c1 : PySem.W.codeIn K cd1 "children_of" = true) (k1 : PySem.W.keepIn K (.ref f1) = true)
    (a2 : PySem.W.nsIn K mainGlobals "came_of" = some (some (.ref f2))) (l2 : K.lookup f2 = some ⟨oc2, od2, .func (PySem.W.fnOf "came_of" "came_of" (defArgs s_came_of) (defBody s_came_of) (defScope s_came_of) .none kV2 dc2 pm2 an2 cd2 ct2), sl2⟩) (c2 : PySem.W.codeIn K cd2 "came_of" = true) (k2 : PySem.W.keepIn K (.ref f2) = true)
    (a3 : PySem.W.nsIn K mainGlobals "ancestors_of" = some (some (.ref f3))) (l3 : K.lookup f3 = some ⟨oc3, od3, .func (PySem.W.fnOf "ancestors_of" "ancestors_of" (defArgs s_ancestors_of) (defBody s_ancestors_of) (defScope s_ancestors_of) .none kV3 dc3 pm3 an3 cd3 ct3), sl3⟩) (c3 : PySem.W.codeIn K cd3 "ancestors_of" = true) (k3 : PySem.W.keepIn K (.ref f3) = true)
    (a4 : PySem.W.nsIn K mainGlobals "without_slot" = some (some (.ref f4))) (l4 : K.lookup f4 = some ⟨oc4, od4, .func (PySem.W.fnOf "without_slot" "without_slot" (defArgs s_without_slot) (defBody s_without_slot) (defScope s_without_slot) .none kV4 dc4 pm4 an4 cd4 ct4), sl4⟩) (c4 : PySem.W.codeIn K cd4 "without_slot" = true) (k4 : PySem.W.keepIn K (.ref f4) = true)
    (a5 : PySem.W.nsIn K mainGlobals "with_key" = some (some (.ref f5))) (l5 : K.lookup f5 = some ⟨oc5, od5, .func (PySem.W.fnOf "with_key" "with_key" (defArgs s_with_key) (defBody s_with_key) (defScope s_with_key) .none kV5 dc5 pm5 an5 cd5 ct5), sl5⟩) (c5 : PySem.W.codeIn K cd5 "with_key" = true) (k5 : PySem.W.keepIn K (.ref f5) = true)
    (a6 : PySem.W.nsIn K mainGlobals "moved" = some (some (.ref f6))) (l6 : K.lookup f6 = some ⟨oc6, od6, .func (PySem.W.fnOf "moved" "moved" (defArgs s_moved) (defBody s_moved) (defScope s_moved) .none kV6 dc6 pm6 an6 cd6 ct6), sl6⟩) (c6 : PySem.W.codeIn K cd6 "moved" = true) (k6 : PySem.W.keepIn K (.ref f6) = true)
    (a7 : PySem.W.nsIn K mainGlobals "_law_draws" = some (some (.ref f7))) (l7 : K.lookup f7 = some ⟨oc7, od7, .func (PySem.W.fnOf "_law_draws" "_law_draws" (defArgs s__law_draws) (defBody s__law_draws) (defScope s__law_draws) .none kV7 dc7 pm7 an7 cd7 ct7), sl7⟩) (c7 : PySem.W.codeIn K cd7 "_law_draws" = true) (k7 : PySem.W.keepIn K (.ref f7) = true)
    (a8 : PySem.W.nsIn K mainGlobals "_law_mix" = some (some (.ref f8))) (l8 : K.lookup f8 = some ⟨oc8, od8, .func (PySem.W.fnOf "_law_mix" "_law_mix" (defArgs s__law_mix) (defBody s__law_mix) (defScope s__law_mix) .none kV8 dc8 pm8 an8 cd8 ct8), sl8⟩) (c8 : PySem.W.codeIn K cd8 "_law_mix" = true) (k8 : PySem.W.keepIn K (.ref f8) = true)
    (a9 : PySem.W.nsIn K mainGlobals "_law_up" = some (some (.ref f9))) (l9 : K.lookup f9 = some ⟨oc9, od9, .func (PySem.W.fnOf "_law_up" "_law_up" (defArgs s__law_up) (defBody s__law_up) (defScope s__law_up) .none kV9 dc9 pm9 an9 cd9 ct9), sl9⟩) (c9 : PySem.W.codeIn K cd9 "_law_up" = true) (k9 : PySem.W.keepIn K (.ref f9) = true)
    (a10 : PySem.W.nsIn K mainGlobals "_law_right" = some (some (.ref f10))) (l10 : K.lookup f10 = some ⟨oc10, od10, .func (PySem.W.fnOf "_law_right" "_law_right" (defArgs s__law_right) (defBody s__law_right) (defScope s__law_right) .none kV10 dc10 pm10 an10 cd10 ct10), sl10⟩) (c10 : PySem.W.codeIn K cd10 "_law_right" = true) (k10 : PySem.W.keepIn K (.ref f10) = true)
    (a11 : PySem.W.nsIn K mainGlobals "law" = some (some (.ref f11))) (l11 : K.lookup f11 = some ⟨oc11, od11, .func (PySem.W.fnOf "law" "law" (defArgs s_law) (defBody s_law) (defScope s_law) .none kV11 dc11 pm11 an11 cd11 ct11), sl11⟩) (c11 : PySem.W.codeIn K cd11 "law" = true) (k11 : PySem.W.keepIn K (.ref f11) = true)
    (z_abs : PySem.W.nsIn K mainGlobals "abs" = some none) (z_dict : PySem.W.nsIn K mainGlobals "dict" = some none) (z_int : PySem.W.nsIn K mainGlobals "int" = some none) (z_len : PySem.W.nsIn K mainGlobals "len" = some none) (z_list : PySem.W.nsIn K mainGlobals "list" = some none) (z_min : PySem.W.nsIn K mainGlobals "min" = some none) (z_range : PySem.W.nsIn K mainGlobals "range" = some none) (z_repr : PySem.W.nsIn K mainGlobals "repr" = some none) (z_sorted : PySem.W.nsIn K mainGlobals "sorted" = some none) :
    ∃ fd : FuncData, (∀ (s : Shared) (v : Value), BindsTo s fd ⟨[v], []⟩ [("script", v)]) ∧ ∀ base : Heap, K.In base → base.Ns mainGlobals mg → TopRun l.prog w K mg base fa fd "script" (VSp W0 K 1 F_law) := by
  have e := hfa.symm.trans (PySem.W.mg_of X G a11)
  cases e
  have TB : Txt mg := ⟨PySem.W.mg_none_of X G z_abs, PySem.W.mg_none_of X G z_dict, PySem.W.mg_none_of X G z_int, PySem.W.mg_none_of X G z_len, PySem.W.mg_none_of X G z_list, PySem.W.mg_none_of X G z_min, PySem.W.mg_none_of X G z_range, PySem.W.mg_none_of X G z_repr, PySem.W.mg_none_of X G z_sorted⟩
  refine ⟨PySem.W.fnOf "law" "law" (defArgs s_law) (defBody s_law) (defScope s_law) .none kV11 dc11 pm11 an11 cd11 ct11, fun s v => .of_eq rfl, fun base _ _ => ?_⟩
  have F1 := fun_mk (st := s_children_of) l1 c1 k1
  have b1 := F1.binds (ps := ["parents", "slot"]) fun _ _ _ _ _ _ us hl => match us, hl with | [_, _], _ => rfl
  have C_children_of := cal_children_of (P := l.prog) (w := w) (base := base) TB  F1 b1 (PySem.W.mg_of X G a1)
  have F2 := fun_mk (st := s_came_of) l2 c2 k2
  have b2 := F2.binds (ps := ["parents", "slot"]) fun _ _ _ _ _ _ us hl => match us, hl with | [_, _], _ => rfl
  have C_came_of := cal_came_of (P := l.prog) (w := w) (base := base) TB C_children_of F2 b2 (PySem.W.mg_of X G a2)
  have F3 := fun_mk (st := s_ancestors_of) l3 c3 k3
  have b3 := F3.binds (ps := ["parents", "slot"]) fun _ _ _ _ _ _ us hl => match us, hl with | [_, _], _ => rfl
  have C_ancestors_of := cal_ancestors_of (P := l.prog) (w := w) (base := base) TB  F3 b3 (PySem.W.mg_of X G a3)
  have F4 := fun_mk (st := s_without_slot) l4 c4 k4
  have b4 := F4.binds (ps := ["keys", "parents", "slot"]) fun _ _ _ _ _ _ us hl => match us, hl with | [_, _, _], _ => rfl
  have C_without_slot := cal_without_slot (P := l.prog) (w := w) (base := base) TB  F4 b4 (PySem.W.mg_of X G a4)
  have F5 := fun_mk (st := s_with_key) l5 c5 k5
  have b5 := F5.binds (ps := ["keys", "parents", "slot", "key", "parent"]) fun _ _ _ _ _ _ us hl => match us, hl with | [_, _, _, _, _], _ => rfl
  have C_with_key := cal_with_key (P := l.prog) (w := w) (base := base) TB  F5 b5 (PySem.W.mg_of X G a5)
  have F6 := fun_mk (st := s_moved) l6 c6 k6
  have b6 := F6.binds (ps := ["keys", "parents", "slot", "there"]) fun _ _ _ _ _ _ us hl => match us, hl with | [_, _, _, _], _ => rfl
  have C_moved := cal_moved (P := l.prog) (w := w) (base := base) TB  F6 b6 (PySem.W.mg_of X G a6)
  have F7 := fun_mk (st := s__law_draws) l7 c7 k7
  have b7 := F7.binds (ps := ["script"]) fun _ _ _ _ _ _ us hl => match us, hl with | [_], _ => rfl
  have C__law_draws := cal__law_draws (P := l.prog) (w := w) (base := base) TB  F7 b7 (PySem.W.mg_of X G a7)
  have F8 := fun_mk (st := s__law_mix) l8 c8 k8
  have b8 := F8.binds (ps := ["draws", "k", "many"]) fun _ _ _ _ _ _ us hl => match us, hl with | [_, _, _], _ => rfl
  have C__law_mix := cal__law_mix (P := l.prog) (w := w) (base := base) TB  F8 b8 (PySem.W.mg_of X G a8)
  have F9 := fun_mk (st := s__law_up) l9 c9 k9
  have b9 := F9.binds (ps := ["parents", "slot"]) fun _ _ _ _ _ _ us hl => match us, hl with | [_, _], _ => rfl
  have C__law_up := cal__law_up (P := l.prog) (w := w) (base := base) TB  F9 b9 (PySem.W.mg_of X G a9)
  have F10 := fun_mk (st := s__law_right) l10 c10 k10
  have b10 := F10.binds (ps := ["keys", "parents"]) fun _ _ _ _ _ _ us hl => match us, hl with | [_, _], _ => rfl
  have C__law_right := cal__law_right (P := l.prog) (w := w) (base := base) TB C__law_up C_came_of C_ancestors_of C_children_of F10 b10 (PySem.W.mg_of X G a10)
  exact top_law TB C__law_draws C__law_mix C_with_key C__law_up C_without_slot C_moved C__law_right C_came_of (fun_mk (st := s_law) l11 c11 k11) ⟨rfl, by decide, by decide⟩
theorem walk {l : PySem.W.OpenLaw} {q : Program} {loose : List Str} {XP : (Str → Option Value) → Heap → Prop} {YP : World → Heap → Prop} {d : DefRec} {K : Params → PySem.W.Frag} (hn : l.most = some 63) (hdf : d.params.defaults = [])
    (hY : ∀ (w : World) (h : Heap), YP w h → (K w.params).In h)
    (F : ∀ (w : World) (mg : Str → Option Value) (fa : Addr) (h : Heap), (K w.params).In h → h.Ns mainGlobals mg → mg d.name = some (.ref fa) →
      ∃ fd : FuncData, (∀ (s : Shared) (u : Value), BindsTo s fd ⟨[u], []⟩ [("script", u)]) ∧ ∀ base : Heap, (K w.params).In base → base.Ns mainGlobals mg → TopRun l.prog w (K w.params) mg base fa fd "script" (VSp W0 (K w.params) 1 F_law)) :
    PySem.W.WalkO q loose XP YP l.row.toRowW d [] (fun f vs => PySem.call f vs) :=
  VL.top_walk (n := 63) (x := "script") (sp := fun w => VSp W0 (K w.params) 1 F_law) hn (by decide) hdf hY F fun w H a ns _ _ only sq => VL.law_sp only sq ⟨(), law_run ns⟩
end K04

open PySem PySem.W PyProof.Rows in
set_option maxRecDepth 100000 in
set_option maxHeartbeats 0 in
theorem PySem.Challenge.cw_keysreach_k04_whole_forests_of_keys_holds : PySem.Challenge.rw_keysreach_k04_whole_forests_of_keys.Holds := by
  w_on; o_law; k_head; (case hw => w_witness2)
  k_fill
  refine K04.walk (l := PySem.Challenge.rw_keysreach_k04_whole_forests_of_keys) rfl rfl (fun w h Y => PySem.W.kIn_of Y) ?F
  case F =>
    intro w mg fa h KX G hmg
    refine' K04.all_mk KX G hmg ?a1 ?l1 ?c1 ?k1 ?a2 ?l2 ?c2 ?k2 ?a3 ?l3 ?c3 ?k3 ?a4 ?l4 ?c4 ?k4 ?a5 ?l5 ?c5 ?k5 ?a6 ?l6 ?c6 ?k6 ?a7 ?l7 ?c7 ?k7 ?a8 ?l8 ?c8 ?k8 ?a9 ?l9 ?c9 ?k9 ?a10 ?l10 ?c10 ?k10 ?a11 ?l11 ?c11 ?k11 ?z_abs ?z_dict ?z_int ?z_len ?z_list ?z_min ?z_range ?z_repr ?z_sorted
    (case a1 => k_is)
    (case l1 => k_is)
    (case c1 => k_is)
    (case k1 => k_is)
    (case a2 => k_is)
    (case l2 => k_is)
    (case c2 => k_is)
    (case k2 => k_is)
    (case a3 => k_is)
    (case l3 => k_is)
    (case c3 => k_is)
    (case k3 => k_is)
    (case a4 => k_is)
    (case l4 => k_is)
    (case c4 => k_is)
    (case k4 => k_is)
    (case a5 => k_is)
    (case l5 => k_is)
    (case c5 => k_is)
    (case k5 => k_is)
    (case a6 => k_is)
    (case l6 => k_is)
    (case c6 => k_is)
    (case k6 => k_is)
    (case a7 => k_is)
    (case l7 => k_is)
    (case c7 => k_is)
    (case k7 => k_is)
    (case a8 => k_is)
    (case l8 => k_is)
    (case c8 => k_is)
    (case k8 => k_is)
    (case a9 => k_is)
    (case l9 => k_is)
    (case c9 => k_is)
    (case k9 => k_is)
    (case a10 => k_is)
    (case l10 => k_is)
    (case c10 => k_is)
    (case k10 => k_is)
    (case a11 => k_is)
    (case l11 => k_is)
    (case c11 => k_is)
    (case k11 => k_is)
    (case z_abs => k_is)
    (case z_dict => k_is)
    (case z_int => k_is)
    (case z_len => k_is)
    (case z_list => k_is)
    (case z_min => k_is)
    (case z_range => k_is)
    (case z_repr => k_is)
    (case z_sorted => k_is)

