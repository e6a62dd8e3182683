import PyProof.Rows.All
import Wide.All
import OpenK.AllK
import Wide.FinOn
import HandS.ForMost
import HandS.ForExc
import HandS.TupAny
import HandS.TupMul
import HandS.IsInst
import HandS.Style
import HandS.Defaults
import KE.GoesMore
import HandS.HeadHook1
import HandS.Deep
import HandS.RaiseMore
import HandS.Head0
import HandS.Head1
import HandS.Head2
import HandS.HeadEnd
import HandS.HeadHook2
import KE.KStateDown
import Lean
import PySem.Challenge.RW_postshire_k66_whole_stamps_in_stock
set_option Elab.async false
set_option linter.all false
set_option maxRecDepth 100000
set_option maxHeartbeats 4000000
/-! # The data layer: plain data above the heap, owned cells beside it -/
namespace DL
open PySem PySem.Spec PyProof.Rows L2

/-- the built-in classes that isinstance is asked of -/
inductive TyN where
  | int | bool | str | tuple | list | dict
def TyN.s : TyN → String
  | .int => "int"
  | .bool => "bool"
  | .str => "str"
  | .tuple => "tuple"
  | .list => "list"
  | .dict => "dict"
inductive D where
  | non | bl (b : Bool) | int (i : Int) | str (x : Str) | ty (n : TyN) | ref (a : Addr)
  | tup (ds : List D) | lst (ds : List D) | ro (ds : List D) | dct (ks : List Key) (ds : List D)

mutual
def Rep (K : PySem.W.Frag) (F : Hp) : D → V → Prop
  | .non, v => v = .non
  | .bl b, v => v = .bl b
  | .int i, v => v = .int i
  | .str x, v => v = .str x
  | .ty n, v => v = .ty n.s
  | .ref a, v => v = .ref a
  | .tup ds, v => ∃ a vs, v = .ref a ∧ SqT K F a vs ∧ Reps K F ds vs
  | .lst ds, v => ∃ a vs, v = .ref a ∧ F a = some (.lst vs) ∧ Reps K F ds vs
  | .ro ds, v => ∃ a vs, v = .ref a ∧ SqL K F a vs ∧ Reps K F ds vs
  | .dct ks ds, v => ∃ a vs, v = .ref a ∧ F a = some (.dK (ks.zip vs)) ∧ ks.length = ds.length ∧ Reps K F ds vs
def Reps (K : PySem.W.Frag) (F : Hp) : List D → List V → Prop
  | [], vs => vs = []
  | d :: ds, vs => ∃ v r, vs = v :: r ∧ Rep K F d v ∧ Reps K F ds r
end

section
variable {K : PySem.W.Frag} {F F' H H' : Hp}
theorem sameT {a : Addr} {xs : List V} (e : Same H H') (h : SqT K H a xs) : SqT K H' a xs := by
  rcases h with (h | ⟨o, h⟩) | h
  · exact .inl (.inl (e _ _ h))
  · exact .inl (.inr ⟨o, e _ _ h⟩)
  · exact .inr h
mutual
theorem Rep.mono (e : Same F F') : ∀ (d : D) (v : V), Rep K F d v → Rep K F' d v
  | .non, _, h => h
  | .bl _, _, h => h
  | .int _, _, h => h
  | .str _, _, h => h
  | .ty _, _, h => h
  | .ref _, _, h => h
  | .tup ds, _, ⟨a, vs, h1, h2, h3⟩ => ⟨a, vs, h1, sameT e h2, Reps.mono e ds vs h3⟩
  | .lst ds, _, ⟨a, vs, h1, h2, h3⟩ => ⟨a, vs, h1, e _ _ h2, Reps.mono e ds vs h3⟩
  | .ro ds, _, ⟨a, vs, h1, h2, h3⟩ => ⟨a, vs, h1, e.seq h2, Reps.mono e ds vs h3⟩
  | .dct ks ds, _, ⟨a, vs, h1, h2, h4, h3⟩ => ⟨a, vs, h1, e _ _ h2, h4, Reps.mono e ds vs h3⟩
theorem Reps.mono (e : Same F F') : ∀ (ds : List D) (vs : List V), Reps K F ds vs → Reps K F' ds vs
  | [], _, h => h
  | d :: ds, _, ⟨v, r, h1, h2, h3⟩ => ⟨v, r, h1, Rep.mono e d v h2, Reps.mono e ds r h3⟩
end
theorem Reps.len : ∀ {ds : List D} {vs : List V}, Reps K F ds vs → ds.length = vs.length
  | [], _, h => by
    have h' : _ = [] := h
    subst h'; rfl
  | _ :: _, _, ⟨_, _, h1, _, h3⟩ => by subst h1; rw [List.length_cons, List.length_cons, Reps.len h3]
theorem Reps.nil : Reps K F [] [] := rfl
theorem Reps.cons {d : D} {v : V} {ds : List D} {vs : List V} (h1 : Rep K F d v) (h2 : Reps K F ds vs) : Reps K F (d :: ds) (v :: vs) := ⟨v, vs, rfl, h1, h2⟩
theorem Reps.get : ∀ {ds : List D} {vs : List V} {i : Nat} {d : D}, Reps K F ds vs → ds[i]? = some d → ∃ v, vs[i]? = some v ∧ Rep K F d v
  | [], _, _, _, _, e => by simp at e
  | _ :: _, _, 0, _, ⟨v, _, h1, h2, _⟩, e => by
    subst h1
    simp at e; subst e
    exact ⟨v, rfl, h2⟩
  | _ :: ds, _, i + 1, d, ⟨_, r, h1, _, h3⟩, e => by
    subst h1
    obtain ⟨v, e1, e2⟩ := Reps.get (i := i) h3 (by simpa using e)
    exact ⟨v, by simpa using e1, e2⟩
theorem Reps.getV : ∀ {ds : List D} {vs : List V} {i : Nat} {v : V}, Reps K F ds vs → vs[i]? = some v → ∃ d, ds[i]? = some d ∧ Rep K F d v
  | [], _, _, _, h, e => by
    have h' : _ = [] := h
    subst h'; simp at e
  | d :: _, _, 0, _, ⟨v, _, h1, h2, _⟩, e => by
    subst h1
    simp at e; subst e
    exact ⟨d, rfl, h2⟩
  | _ :: ds, _, i + 1, d, ⟨_, r, h1, _, h3⟩, e => by
    subst h1
    obtain ⟨v, e1, e2⟩ := Reps.getV (i := i) h3 (by simpa using e)
    exact ⟨v, by simpa using e1, e2⟩
theorem Reps.append : ∀ {ds es : List D} {vs ws : List V}, Reps K F ds vs → Reps K F es ws → Reps K F (ds ++ es) (vs ++ ws)
  | [], _, _, _, h, g => by
    have h' : _ = [] := h
    subst h'; exact g
  | _ :: _, _, _, _, ⟨v, r, h1, h2, h3⟩, g => by subst h1; exact ⟨v, _, rfl, h2, Reps.append h3 g⟩
theorem Reps.set : ∀ {ds : List D} {vs : List V} {d : D} {v : V} (i : Nat), Reps K F ds vs → Rep K F d v → Reps K F (ds.set i d) (vs.set i v)
  | [], _, _, _, _, h, _ => by
    have h' : _ = [] := h
    subst h'; rfl
  | _ :: _, _, _, _, 0, ⟨_, r, h1, _, h3⟩, g => by subst h1; exact ⟨_, r, rfl, g, h3⟩
  | _ :: _, _, _, _, i + 1, ⟨v, r, h1, h2, h3⟩, g => by subst h1; exact ⟨v, _, rfl, h2, Reps.set i h3 g⟩
theorem Reps.take : ∀ {ds : List D} {vs : List V} (i : Nat), Reps K F ds vs → Reps K F (ds.take i) (vs.take i)
  | _, _, 0, _ => rfl
  | [], _, _ + 1, h => by
    have h' : _ = [] := h
    subst h'; rfl
  | _ :: _, _, i + 1, ⟨v, r, h1, h2, h3⟩ => by subst h1; exact ⟨v, _, rfl, h2, Reps.take i h3⟩
theorem Reps.drop : ∀ {ds : List D} {vs : List V} (i : Nat), Reps K F ds vs → Reps K F (ds.drop i) (vs.drop i)
  | _, _, 0, h => h
  | [], _, _ + 1, h => by
    have h' : _ = [] := h
    subst h'; rfl
  | _ :: _, _, i + 1, ⟨v, r, h1, h2, h3⟩ => by subst h1; exact Reps.drop i h3
theorem Reps.eraseIdx : ∀ {ds : List D} {vs : List V} (i : Nat), Reps K F ds vs → Reps K F (ds.eraseIdx i) (vs.eraseIdx i)
  | [], _, _, h => by
    have h' : _ = [] := h
    subst h'; rfl
  | _ :: _, _, 0, ⟨v, r, h1, h2, h3⟩ => by subst h1; exact h3
  | _ :: _, _, i + 1, ⟨v, r, h1, h2, h3⟩ => by subst h1; exact ⟨v, _, rfl, h2, Reps.eraseIdx i h3⟩
theorem Reps.dropLast {ds : List D} {vs : List V} (h : Reps K F ds vs) : Reps K F ds.dropLast vs.dropLast := by
  rw [List.dropLast_eq_take, List.dropLast_eq_take, h.len]
  exact h.take _
theorem Reps.rep {ds : List D} {vs : List V} (h : Reps K F ds vs) : ∀ n : Nat, Reps K F (List.replicate n ds).flatten (List.replicate n vs).flatten
  | 0 => rfl
  | n + 1 => by
    rw [List.replicate_succ, List.replicate_succ, List.flatten_cons, List.flatten_cons]
    exact h.append (Reps.rep h n)
theorem Reps.ints : ∀ {ns : List Int} {vs : List V}, Reps K F (ns.map D.int) vs → vs = ns.map V.int
  | [], _, h => h
  | _ :: _, _, ⟨v, r, h1, h2, h3⟩ => by
    have h2' : v = _ := h2
    subst h1; subst h2'
    rw [List.map_cons, Reps.ints h3]
theorem Reps.strs : ∀ {ns : List Str} {vs : List V}, Reps K F (ns.map D.str) vs → vs = ns.map V.str
  | [], _, h => h
  | _ :: _, _, ⟨v, r, h1, h2, h3⟩ => by
    have h2' : v = _ := h2
    subst h1; subst h2'
    rw [List.map_cons, Reps.strs h3]
theorem Reps.bls : ∀ {ns : List Bool} {vs : List V}, Reps K F (ns.map D.bl) vs → vs = ns.map V.bl
  | [], _, h => h
  | _ :: _, _, ⟨v, r, h1, h2, h3⟩ => by
    have h2' : v = _ := h2
    subst h1; subst h2'
    rw [List.map_cons, Reps.bls h3]
theorem reps_ints : ∀ (ns : List Int), Reps K F (ns.map D.int) (ns.map V.int)
  | [] => rfl
  | _ :: ns => ⟨_, _, rfl, rfl, reps_ints ns⟩
theorem reps_strs : ∀ (ns : List Str), Reps K F (ns.map D.str) (ns.map V.str)
  | [] => rfl
  | _ :: ns => ⟨_, _, rfl, rfl, reps_strs ns⟩
end

/-! ### cells, the state -/
abbrev Cells := Addr → Option D
def up (M : Cells) (p : Addr) (c : D) : Cells := fun q => if q = p then some c else M q
theorem up_same {M : Cells} {p : Addr} {c : D} : up M p c p = some c := if_pos rfl
theorem up_ne {M : Cells} {p q : Addr} {c : D} (h : q ≠ p) : up M p c q = M q := if_neg h
theorem up_up {M : Cells} {p : Addr} {c c' : D} : up (up M p c) p c' = up M p c' := by
  funext q; unfold up; split <;> rfl
theorem up_comm {M : Cells} {p q : Addr} {c c' : D} (h : p ≠ q) : up (up M p c) q c' = up (up M q c') p c := by
  funext r; unfold up
  by_cases h1 : r = p
  · subst h1; simp [h]
  · simp [h1]
theorem up_id {M : Cells} {p : Addr} {c : D} (h : M p = some c) : up M p c = M := by
  funext q; unfold up
  by_cases e : q = p
  · subst e; simp [h]
  · simp [e]
/-- fewer cells -/
def Le (M M' : Cells) : Prop := ∀ p c, M p = some c → M' p = some c
theorem Le.refl (M : Cells) : Le M M := fun _ _ h => h
theorem Le.trans {M M1 M2 : Cells} (a : Le M M1) (b : Le M1 M2) : Le M M2 := fun p c h => b p c (a p c h)
theorem Le.new {M M1 : Cells} {p : Addr} {c : D} (a : Le M M1) (h : M1 p = none) : Le M (up M1 p c) := fun q d e => by
  have e1 := a q d e
  rw [up_ne (fun z => by rw [z, h] at e1; cases e1)]
  exact e1
theorem Le.up {M M1 : Cells} {p : Addr} {c : D} (a : Le M M1) : Le (up M p c) (up M1 p c) := fun q d e => by
  by_cases h : q = p
  · subst h; rw [up_same] at e ⊢; exact e
  · rw [up_ne h] at e ⊢; exact a q d e
theorem Le.over {M M1 : Cells} {p : Addr} {c : D} (a : Le M M1) (h : M p = none) : Le M (DL.up M1 p c) := fun q d e => by
  rw [up_ne (fun z => by rw [z, h] at e; cases e)]
  exact a q d e

def CellAt (K : PySem.W.Frag) (F H : Hp) (p : Addr) : D → Prop
  | .lst ds => ∃ vs, H p = some (.lst vs) ∧ Reps K F ds vs
  | .dct ks ds => ∃ vs, H p = some (.dK (ks.zip vs)) ∧ ks.length = ds.length ∧ Reps K F ds vs
  | _ => False
structure StaC (K : PySem.W.Frag) (F H : Hp) (M : Cells) : Prop where
  sub : Same F H
  cell : ∀ p c, M p = some c → F p = none ∧ CellAt K F H p c
theorem StaC.le {K : PySem.W.Frag} {F H : Hp} {M M' : Cells} (S : StaC K F H M') (l : Le M M') : StaC K F H M := ⟨S.sub, fun p c e => S.cell p c (l p c e)⟩
theorem CellAt.there {K : PySem.W.Frag} {F H : Hp} {p : Addr} : ∀ {c : D}, CellAt K F H p c → ∃ o, H p = Option.some o
  | .lst _, ⟨_, h, _⟩ => ⟨_, h⟩
  | .dct _ _, ⟨_, h, _⟩ => ⟨_, h⟩
theorem CellAt.keep {K : PySem.W.Frag} {F F' H H' : Hp} {p : Addr} (e : Same F F') (h : ∀ o, H p = some o → H' p = some o) : ∀ {c : D}, CellAt K F H p c → CellAt K F' H' p c
  | .lst _, ⟨vs, h1, h2⟩ => ⟨vs, h _ h1, h2.mono e⟩
  | .dct _ _, ⟨vs, h1, h2, h3⟩ => ⟨vs, h _ h1, h2, h3.mono e⟩

abbrev Rho := List (Option D)
def slot : Rho → Nat → Option D
  | [], _ => none
  | a :: _, 0 => a
  | _ :: r, n + 1 => slot r n
def put : Rho → Nat → D → Rho
  | [], _, _ => []
  | _ :: r, 0, d => some d :: r
  | a :: r, n + 1, d => a :: put r n d
def drp : Rho → Nat → Rho
  | [], _ => []
  | _ :: r, 0 => none :: r
  | a :: r, n + 1 => a :: drp r n
def Slots (K : PySem.W.Frag) (F : Hp) : List (Option V) → Rho → Prop
  | [], r => r = []
  | s :: σ, r => ∃ a r', r = a :: r' ∧ (∀ d, a = some d → ∃ v, s = some v ∧ Rep K F d v) ∧ Slots K F σ r'
section
variable {K : PySem.W.Frag} {F F' H : Hp}
theorem Slots.mono (e : Same F F') : ∀ {σ : List (Option V)} {ρ : Rho}, Slots K F σ ρ → Slots K F' σ ρ
  | [], _, h => h
  | _ :: _, _, ⟨a, r', h1, h2, h3⟩ => ⟨a, r', h1, fun d hd => let ⟨v, e1, e2⟩ := h2 d hd; ⟨v, e1, e2.mono e⟩, h3.mono e⟩
theorem Slots.get : ∀ {σ : List (Option V)} {ρ : Rho} {i : Nat} {d : D}, Slots K F σ ρ → slot ρ i = some d → ∃ v, σ[i]? = some (some v) ∧ Rep K F d v
  | [], _, _, _, h, e => by
    have h' : _ = [] := h
    subst h'; cases e
  | _ :: _, _, 0, d, ⟨a, r', h1, h2, _⟩, e => by
    subst h1
    obtain ⟨v, e1, e2⟩ := h2 d e
    exact ⟨v, by rw [e1]; rfl, e2⟩
  | _ :: _, _, i + 1, d, ⟨a, r', h1, _, h3⟩, e => by
    subst h1
    obtain ⟨v, e1, e2⟩ := Slots.get (i := i) h3 e
    exact ⟨v, by simpa using e1, e2⟩
theorem Slots.put : ∀ {σ : List (Option V)} {ρ : Rho} (i : Nat) {d : D} {v : V}, Slots K F σ ρ → Rep K F d v → Slots K F (σ.set i (some v)) (put ρ i d)
  | [], _, _, _, _, h, _ => by
    have h' : _ = [] := h
    subst h'; rfl
  | _ :: _, _, 0, d, v, ⟨a, r', h1, _, h3⟩, g => by
    subst h1
    exact ⟨_, _, rfl, fun d' e => ⟨v, rfl, by cases e; exact g⟩, h3⟩
  | _ :: _, _, i + 1, d, v, ⟨a, r', h1, h2, h3⟩, g => by
    subst h1
    exact ⟨_, _, rfl, h2, Slots.put i h3 g⟩
theorem Slots.drp : ∀ {σ : List (Option V)} {ρ : Rho} (i : Nat) {o : Option V}, Slots K F σ ρ → Slots K F (σ.set i o) (drp ρ i)
  | [], _, _, _, h => by
    have h' : _ = [] := h
    subst h'; rfl
  | _ :: _, _, 0, o, ⟨a, r', h1, _, h3⟩ => by
    subst h1
    exact ⟨none, r', rfl, (fun d' e => nomatch e), h3⟩
  | _ :: _, _, i + 1, o, ⟨a, r', h1, h2, h3⟩ => by
    subst h1
    exact ⟨_, _, rfl, h2, Slots.drp i h3⟩
end
structure Sta (K : PySem.W.Frag) (F H : Hp) (σ : L2.St) (ρ : Rho) (M : Cells) : Prop extends StaC K F H M where
  sl : Slots K F σ ρ

abbrev EK := Addr → Cells → Prop
abbrev DK := D → Cells → Prop
abbrev WE := Rho → Cells → EK → DK → Prop
abbrev WT := Rho → Cells → EK → (Bool → Cells → Prop) → Prop
abbrev WA := Rho → Cells → EK → (List D → Cells → Prop) → Prop
structure DEnds where
  nx : Rho → Cells → Prop
  rt : DK
  bk : Rho → Cells → Prop := fun _ _ => False
  ct : Rho → Cells → Prop := fun _ _ => False
abbrev WS := DEnds → EK → Rho → Cells → Prop

def EOk (K : PySem.W.Frag) (Ew : XK) (F : Hp) (Ed : EK) : Prop := ∀ c H' F' M', Same F F' → StaC K F' H' M' → Ed c M' → Ew (.ref c) none H'
theorem EOk.mono {K : PySem.W.Frag} {Ew : XK} {F F' : Hp} {Ed : EK} (h : EOk K Ew F Ed) (e : Same F F') : EOk K Ew F' Ed := fun c H' G M' a => h c H' G M' (e.trans a)
/-- what is wanted behind an expression, below -/
def QOk (K : PySem.W.Frag) (F : Hp) (σ : L2.St) (ρ : Rho) (Qd : DK) (Q : VK) : Prop := ∀ v H' F' d M', Same F F' → Sta K F' H' σ ρ M' → Rep K F' d v → Qd d M' → Q v H'
theorem QOk.mono {K : PySem.W.Frag} {F F' : Hp} {σ : L2.St} {ρ : Rho} {Qd : DK} {Q : VK} (h : QOk K F σ ρ Qd Q) (e : Same F F') : QOk K F' σ ρ Qd Q := fun v H' G d M' a => h v H' G d M' (e.trans a)
def LE (K : PySem.W.Frag) (Ew : XK) (t : TE) (w : WE) : Prop :=
  ∀ (σ : L2.St) (H F : Hp) (ρ : Rho) (M : Cells) (Ed : EK) (Qd : DK), Sta K F H σ ρ M → EOk K Ew F Ed → w ρ M Ed Qd → ∀ Q : VK, QOk K F σ ρ Qd Q → t σ H Q
def LT (K : PySem.W.Frag) (Ew : XK) (t : TT) (w : WT) : Prop :=
  ∀ (σ : L2.St) (H F : Hp) (ρ : Rho) (M : Cells) (Ed : EK) (Qd : Bool → Cells → Prop), Sta K F H σ ρ M → EOk K Ew F Ed → w ρ M Ed Qd → ∀ Q : Bool → Hp → Prop, (∀ b H' F' M', Same F F' → Sta K F' H' σ ρ M' → Qd b M' → Q b H') → t σ H Q
def LA (K : PySem.W.Frag) (Ew : XK) (t : TA) (w : WA) : Prop :=
  ∀ (σ : L2.St) (H F : Hp) (ρ : Rho) (M : Cells) (Ed : EK) (Qd : List D → Cells → Prop), Sta K F H σ ρ M → EOk K Ew F Ed → w ρ M Ed Qd → ∀ Q : List V → Hp → Prop, (∀ vs H' F' ds M', Same F F' → Sta K F' H' σ ρ M' → Reps K F' ds vs → Qd ds M' → Q vs H') → t σ H Q
structure DOk (K : PySem.W.Frag) (F : Hp) (Dd : DEnds) (D0 : Ends) : Prop where
  nx : ∀ σ' H' F' ρ' M', Same F F' → Sta K F' H' σ' ρ' M' → Dd.nx ρ' M' → D0.nx σ' H'
  bk : ∀ σ' H' F' ρ' M', Same F F' → Sta K F' H' σ' ρ' M' → Dd.bk ρ' M' → D0.bk σ' H'
  ct : ∀ σ' H' F' ρ' M', Same F F' → Sta K F' H' σ' ρ' M' → Dd.ct ρ' M' → D0.ct σ' H'
  rt : ∀ v H' F' d M', Same F F' → StaC K F' H' M' → Rep K F' d v → Dd.rt d M' → D0.rt v H'
theorem DOk.mono {K : PySem.W.Frag} {F F' : Hp} {Dd : DEnds} {D0 : Ends} (h : DOk K F Dd D0) (e : Same F F') : DOk K F' Dd D0 :=
  ⟨fun σ' H' G ρ' M' a => h.nx σ' H' G ρ' M' (e.trans a), fun σ' H' G ρ' M' a => h.bk σ' H' G ρ' M' (e.trans a), fun σ' H' G ρ' M' a => h.ct σ' H' G ρ' M' (e.trans a), fun v H' G d M' a => h.rt v H' G d M' (e.trans a)⟩
def LS (K : PySem.W.Frag) (Ew : XK) (t : TS) (w : WS) : Prop :=
  ∀ (σ : L2.St) (H F : Hp) (ρ : Rho) (M : Cells) (Ed : EK) (Dd : DEnds), Sta K F H σ ρ M → EOk K Ew F Ed → w Dd Ed ρ M → ∀ D0 : Ends, DOk K F Dd D0 → t D0 σ H

def DE (X : Cx) (Ew : XK) (e : Expr) (w : WE) : Prop := ∃ t, PE X e t ∧ LE X.K Ew t w
def DT (X : Cx) (Ew : XK) (e : Expr) (w : WT) : Prop := ∃ t, PT X e t ∧ LT X.K Ew t w
def DW (X : Cx) (Ew : XK) (e : Expr) (w : WT) : Prop := ∃ t, PW X e t ∧ LT X.K Ew t w
def DA (X : Cx) (Ew : XK) (es : List Expr) (w : WA) : Prop := ∃ t, PA X es t ∧ LA X.K Ew t w
def DS (X : Cx) (Ew : XK) (st : Stmt) (w : WS) : Prop := ∃ t, PS X st t ∧ LS X.K Ew t w
def DSs (X : Cx) (Ew : XK) (st : List Stmt) (w : WS) : Prop := ∃ t, PSs X st t ∧ LS X.K Ew t w

/-! ### names, constants -/
def wVar (i : Nat) : WE := fun ρ M _ Q => match slot ρ i with
  | some d => Q d M
  | none => False
def wC (d : D) : WE := fun _ M _ Q => Q d M
theorem le_var {K : PySem.W.Frag} {Ew : XK} (i : Nat) : LE K Ew (tVar i) (wVar i) := fun σ H F ρ M Ed Qd S _ h Q q => by
  unfold wVar at h
  cases e : slot ρ i with
  | none => rw [e] at h; exact h.elim
  | some d =>
    rw [e] at h
    obtain ⟨v, e1, e2⟩ := S.sl.get e
    exact ⟨v, e1, q v H F d M (Same.refl F) S e2 h⟩
theorem le_c {K : PySem.W.Frag} {Ew : XK} {v : V} {d : D} (hd : ∀ F, Rep K F d v) : LE K Ew (tC v) (wC d) := fun σ H F ρ M Ed Qd S _ h Q q => q v H F d M (Same.refl F) S (hd F) h
section
variable {X : Cx} {Ew : XK}
theorem de_var (i : Nat) {x : Str} {pos : Pos} (hN : X.N[i]? = some x := by rfl) (hv : Vis X.env.scope x := by first | exact Or.inl rfl | exact Or.inr (Or.inl rfl) | exact Or.inr (Or.inr rfl)) (hd : (x == ("__debug__" : Str)) = false := by decide)
    (hcd : (x == ("__classdict__" : Str)) = false := by decide) : DE X Ew (.Name x pos) (wVar i) := ⟨_, pe_var hN hv hd hcd, le_var i⟩
theorem de_int {i : Int} {j pos} : DE X Ew (.Constant (.int i) j pos) (wC (.int i)) := ⟨_, pe_int, le_c fun _ => rfl⟩
theorem de_bl {i : Bool} {j pos} : DE X Ew (.Constant (.bool i) j pos) (wC (.bl i)) := ⟨_, pe_bl, le_c fun _ => rfl⟩
theorem de_non {j pos} : DE X Ew (.Constant .none j pos) (wC .non) := ⟨_, pe_non, le_c fun _ => rfl⟩
theorem de_str {i : Str} {j pos} : DE X Ew (.Constant (.str i) j pos) (wC (.str i)) := ⟨_, pe_str, le_c fun _ => rfl⟩
theorem de_gint {x : Str} {i : Int} {pos : Pos} (hm : ∃ t, X.mg x = some (.int i t)) (hg : Gl X x := by rfl) (hd : (x == ("__debug__" : Str)) = false := by decide) : DE X Ew (.Name x pos) (wC (.int i)) :=
  let ⟨t, e⟩ := hm; ⟨_, pe_glob (v := .int i) hg e ⟨t, rfl⟩ hd, le_c fun _ => rfl⟩
theorem de_gstr {x z : Str} {pos : Pos} (hm : ∃ t, X.mg x = some (.str z t)) (hg : Gl X x := by rfl) (hd : (x == ("__debug__" : Str)) = false := by decide) : DE X Ew (.Name x pos) (wC (.str z)) :=
  let ⟨t, e⟩ := hm; ⟨_, pe_glob (v := .str z) hg e ⟨t, rfl⟩ hd, le_c fun _ => rfl⟩
theorem de_gref {x : Str} {a : Addr} {pos : Pos} (hm : X.mg x = some (.ref a)) (hg : Gl X x := by rfl) (hd : (x == ("__debug__" : Str)) = false := by decide) : DE X Ew (.Name x pos) (wC (.ref a)) :=
  ⟨_, pe_glob (v := .ref a) hg hm rfl hd, le_c fun _ => rfl⟩
theorem de_ty {x : Str} {n : TyN} {pos : Pos} (hm : X.mg x = none) (hv : bootBuiltins x = some (.type n.s) := by decide +kernel) (hg : Gl X x := by rfl) (hn : x ≠ "__name__" := by decide) (hd : (x == ("__debug__" : Str)) = false := by decide) : DE X Ew (.Name x pos) (wC (.ty n)) :=
  ⟨_, pe_bltn (v := .ty n.s) hg hm hv rfl hn hd, le_c fun _ => rfl⟩
end

/-! ### operators -/
/-- what a value rule of two gives above -/
def LR (K : PySem.W.Frag) (r : R2) (f : D → D → Cells → DK → Prop) : Prop :=
  ∀ (σ : L2.St) (H F : Hp) (ρ : Rho) (M : Cells) (Qd : DK) (x y : V) (dx dy : D), Sta K F H σ ρ M → Rep K F dx x → Rep K F dy y → f dx dy M Qd → ∀ Q : VK, QOk K F σ ρ Qd Q → r x y H Q
def LU (K : PySem.W.Frag) (r : V → Hp → VK → Prop) (f : D → Cells → DK → Prop) : Prop :=
  ∀ (σ : L2.St) (H F : Hp) (ρ : Rho) (M : Cells) (Qd : DK) (x : V) (dx : D), Sta K F H σ ρ M → Rep K F dx x → f dx M Qd → ∀ Q : VK, QOk K F σ ρ Qd Q → r x H Q
/-- .. of a list of arguments -/
def LC (K : PySem.W.Frag) (r : List V → Hp → VK → Prop) (f : List D → Cells → DK → Prop) : Prop :=
  ∀ (σ : L2.St) (H F : Hp) (ρ : Rho) (M : Cells) (Qd : DK) (xs : List V) (ds : List D), Sta K F H σ ρ M → Reps K F ds xs → f ds M Qd → ∀ Q : VK, QOk K F σ ρ Qd Q → r xs H Q
def wOp (f : D → D → Cells → DK → Prop) (wa wb : WE) : WE := fun ρ M E Q => wa ρ M E fun x M1 => wb ρ M1 E fun y M2 => f x y M2 Q
def wUn (f : D → Cells → DK → Prop) (wa : WE) : WE := fun ρ M E Q => wa ρ M E fun x M1 => f x M1 Q
def wCall (f : List D → Cells → DK → Prop) (wa : WA) : WE := fun ρ M E Q => wa ρ M E fun xs M1 => f xs M1 Q
section
variable {X : Cx} {Ew : XK} {K : PySem.W.Frag} {ta tb : TE} {wa wb : WE}
theorem le_op {r : R2} {f : D → D → Cells → DK → Prop} (ha : LE K Ew ta wa) (hb : LE K Ew tb wb) (hr : LR K r f) : LE K Ew (tOp r ta tb) (wOp f wa wb) := fun σ H F ρ M Ed Qd S E h Q q =>
  ha σ H F ρ M Ed _ S E h _ fun x H1 F1 dx M1 e1 S1 r1 h1 =>
    hb σ H1 F1 ρ M1 Ed _ S1 (E.mono e1) h1 _ fun y H2 F2 dy M2 e2 S2 r2 h2 =>
      hr σ H2 F2 ρ M2 Qd x y dx dy S2 (r1.mono e2) r2 h2 Q (q.mono (e1.trans e2))
theorem le_un {r : V → Hp → VK → Prop} {f : D → Cells → DK → Prop} (ha : LE K Ew ta wa) (hr : LU K r f) : LE K Ew (tUn r ta) (wUn f wa) := fun σ H F ρ M Ed Qd S E h Q q =>
  ha σ H F ρ M Ed _ S E h _ fun x H1 F1 dx M1 e1 S1 r1 h1 => hr σ H1 F1 ρ M1 Qd x dx S1 r1 h1 Q (q.mono e1)
theorem le_call {r : List V → Hp → VK → Prop} {f : List D → Cells → DK → Prop} {t : TA} {w : WA} (ha : LA K Ew t w) (hr : LC K r f) : LE K Ew (tCB r t) (wCall f w) := fun σ H F ρ M Ed Qd S E h Q q =>
  ha σ H F ρ M Ed _ S E h _ fun xs H1 F1 ds M1 e1 S1 r1 h1 => hr σ H1 F1 ρ M1 Qd xs ds S1 r1 h1 Q (q.mono e1)
theorem de_op {op : Operator} {a b : Expr} {pos : Pos} {r : R2} {f : D → D → Cells → DK → Prop} (ho : OpR X (binaryOp op) r) (hr : LR X.K r f) (ha : DE X Ew a wa) (hb : DE X Ew b wb) : DE X Ew (.BinOp a op b pos) (wOp f wa wb) :=
  let ⟨_, pa, la⟩ := ha; let ⟨_, pb, lb⟩ := hb; ⟨_, pe_op ho pa pb, le_op la lb hr⟩
theorem de_un {op : UnaryOp} {a : Expr} {pos : Pos} {r : V → Hp → VK → Prop} {f : D → Cells → DK → Prop} (ho : UnR X (unaryOp op) r) (hr : LU X.K r f) (ha : DE X Ew a wa) : DE X Ew (.UnaryOp op a pos) (wUn f wa) :=
  let ⟨_, pa, la⟩ := ha; ⟨_, pe_un ho pa, le_un la hr⟩
theorem de_cmp {op : CmpOp} {a b : Expr} {pos : Pos} {r : R2} {f : D → D → Cells → DK → Prop} (ho : OpR X (compareOp op) r) (hr : LR X.K r f) (ha : DE X Ew a wa) (hb : DE X Ew b wb) (hm : behindInMarks op b = false) : DE X Ew (.Compare a [op] [b] pos) (wOp f wa wb) :=
  let ⟨_, pa, la⟩ := ha; let ⟨_, pb, lb⟩ := hb; ⟨_, pe_cmpR ho pa pb hm, le_op la lb hr⟩
end
end DL

set_option Elab.async false
set_option linter.all false
set_option maxRecDepth 100000
set_option maxHeartbeats 4000000
namespace DL
open PySem PySem.Spec PyProof.Rows L2

/-! ### the state behind a new object, a changed cell -/
section
variable {K : PySem.W.Frag} {F F' H : Hp} {σ : L2.St} {ρ : Rho} {M : Cells} {p : Addr}
theorem StaC.fn (S : StaC K F H M) (h : H p = none) : F p = none := S.sub.free h
theorem StaC.mn (S : StaC K F H M) (h : H p = none) : M p = none := by
  cases e : M p with
  | none => rfl
  | some c =>
    obtain ⟨o, z⟩ := (S.cell p c e).2.there
    rw [h] at z; cases z
theorem Same.new {H : Hp} {p : Addr} {o : HO} (h : H p = none) : Same H (upd H p o) := fun a u e => by
  rw [upd_ne (ne_of_none e h)]
  exact e
theorem StaC.frz (S : StaC K F H M) (h : H p = none) (o : HO) : StaC K (upd F p o) (upd H p o) M := by
  have hf := S.fn h
  refine ⟨fun b u e => ?_, fun q c e => ?_⟩
  · by_cases hb : b = p
    · subst hb; rw [upd_same] at e ⊢; exact e
    · rw [upd_ne hb] at e ⊢; exact S.sub b u e
  · obtain ⟨z1, z2⟩ := S.cell q c e
    obtain ⟨u, hu⟩ := z2.there
    have ne : q ≠ p := ne_of_none hu h
    exact ⟨by rw [upd_ne ne]; exact z1, z2.keep (Same.new hf) fun o' e' => by rw [upd_ne ne]; exact e'⟩
theorem Sta.frz (S : Sta K F H σ ρ M) (h : H p = none) (o : HO) : Sta K (upd F p o) (upd H p o) σ ρ M := ⟨S.toStaC.frz h o, S.sl.mono (Same.new (S.fn h))⟩
theorem StaC.newC (S : StaC K F H M) (h : H p = none) {o : HO} {c : D} (hc : CellAt K F (upd H p o) p c) : StaC K F (upd H p o) (up M p c) := by
  refine ⟨S.sub.trans (Same.new h), fun q c' e => ?_⟩
  by_cases hq : q = p
  · subst hq
    rw [up_same] at e; cases e
    exact ⟨S.fn h, hc⟩
  · rw [up_ne hq] at e
    obtain ⟨z1, z2⟩ := S.cell q c' e
    exact ⟨z1, z2.keep (Same.refl F) fun o' e' => by rw [upd_ne hq]; exact e'⟩
theorem Sta.newC (S : Sta K F H σ ρ M) (h : H p = none) {o : HO} {c : D} (hc : CellAt K F (upd H p o) p c) : Sta K F (upd H p o) σ ρ (up M p c) := ⟨S.toStaC.newC h hc, S.sl⟩
theorem StaC.setC (S : StaC K F H M) {c0 : D} (h : M p = some c0) {o : HO} {c : D} (hc : CellAt K F (upd H p o) p c) : StaC K F (upd H p o) (up M p c) := by
  have hf := (S.cell p c0 h).1
  refine ⟨fun b u e => ?_, fun q c' e => ?_⟩
  · rw [upd_ne (ne_of_none e hf)]; exact S.sub b u e
  · by_cases hq : q = p
    · subst hq
      rw [up_same] at e; cases e
      exact ⟨hf, hc⟩
    · rw [up_ne hq] at e
      obtain ⟨z1, z2⟩ := S.cell q c' e
      exact ⟨z1, z2.keep (Same.refl F) fun o' e' => by rw [upd_ne hq]; exact e'⟩
theorem Sta.setC (S : Sta K F H σ ρ M) {c0 : D} (h : M p = some c0) {o : HO} {c : D} (hc : CellAt K F (upd H p o) p c) : Sta K F (upd H p o) σ ρ (up M p c) := ⟨S.toStaC.setC h hc, S.sl⟩
theorem Sta.put (S : Sta K F H σ ρ M) (i : Nat) {d : D} {v : V} (r : Rep K F d v) : Sta K F H (σ.set i (some v)) (DL.put ρ i d) M := ⟨S.toStaC, S.sl.put i r⟩
theorem Sta.le {M' : Cells} (S : Sta K F H σ ρ M') (l : Le M M') : Sta K F H σ ρ M := ⟨S.toStaC.le l, S.sl⟩
theorem QOk.here {Qd : DK} {Q : VK} {d : D} {v : V} (q : QOk K F σ ρ Qd Q) (S : Sta K F H σ ρ M) (hd : Qd d M) (r : Rep K F d v) : Q v H := q v H F d M (Same.refl F) S r hd
/-- a new frozen object is handed on -/
theorem QOk.frz {Qd : DK} {Q : VK} (q : QOk K F σ ρ Qd Q) (S : Sta K F H σ ρ M) (h : H p = none) {o : HO} {d : D} (r : Rep K (upd F p o) d (.ref p)) (hd : Qd d M) : Q (.ref p) (upd H p o) :=
  q _ _ _ d M (Same.new (S.fn h)) (S.frz h o) r hd
end

/-! ### which list, which sequence -/
def lstC : Option D → Option (List D)
  | some (.lst xs) => some xs
  | _ => none
theorem lstC_ok : ∀ {o : Option D} {xs : List D}, lstC o = some xs → o = some (.lst xs)
  | some (.lst _), _, e => by cases e; rfl
def asL (M : Cells) : D → Option (List D)
  | .lst xs => some xs
  | .ref p => lstC (M p)
  | _ => none
def asQ (M : Cells) : D → Option (List D)
  | .lst xs => some xs
  | .tup xs => some xs
  | .ro xs => some xs
  | .ref p => lstC (M p)
  | _ => none
section
variable {K : PySem.W.Frag} {F H : Hp} {σ : L2.St} {ρ : Rho} {M : Cells}
theorem asL_ok (S : StaC K F H M) : ∀ {d : D} {v : V} {ds : List D}, Rep K F d v → asL M d = some ds → ∃ a vs, v = .ref a ∧ H a = some (.lst vs) ∧ Reps K F ds vs := fun {d v ds} r e => by
  cases d with
  | lst xs =>
    cases e
    obtain ⟨a, vs, h1, h2, h3⟩ := r
    exact ⟨a, vs, h1, S.sub _ _ h2, h3⟩
  | ref p =>
    obtain ⟨_, vs, h1, h2⟩ := S.cell p _ (lstC_ok (show lstC (M p) = some ds from e))
    exact ⟨p, vs, r, h1, h2⟩
  | _ => cases e
theorem asQ_ok (S : StaC K F H M) : ∀ {d : D} {v : V} {ds : List D}, Rep K F d v → asQ M d = some ds → ∃ a vs, v = .ref a ∧ (SqL K H a vs ∨ SqT K H a vs) ∧ Reps K F ds vs := fun {d v ds} r e => by
  cases d with
  | lst xs =>
    cases e
    obtain ⟨a, vs, h1, h2, h3⟩ := r
    exact ⟨a, vs, h1, .inl (SqL.of (S.sub _ _ h2)), h3⟩
  | ro xs =>
    cases e
    obtain ⟨a, vs, h1, h2, h3⟩ := r
    exact ⟨a, vs, h1, .inl (S.sub.seq h2), h3⟩
  | tup xs =>
    cases e
    obtain ⟨a, vs, h1, h2, h3⟩ := r
    exact ⟨a, vs, h1, .inr (sameT S.sub h2), h3⟩
  | ref p =>
    obtain ⟨_, vs, h1, h2⟩ := S.cell p _ (lstC_ok (show lstC (M p) = some ds from e))
    exact ⟨p, vs, r, .inl (SqL.of h1), h2⟩
  | _ => cases e
end

/-! ### + - * // % ** -/
def onO {α : Type} (o : Option α) (f : α → Prop) : Prop := ∃ a, o = some a ∧ f a
def fCat (x y : D) (M : Cells) (Q : DK) : Prop := onO (asL M x) fun xs => onO (asL M y) fun ys => xs.length + ys.length ≤ sizeLine ∧ Q (.lst (xs ++ ys)) M
def fAdd (x y : D) (M : Cells) (Q : DK) : Prop := match x, y with
  | .int i, .int j => Q (.int (i + j)) M
  | .str a, .str b => a.length + b.length ≤ sizeLine ∧ Q (.str (a ++ b)) M
  | .tup xs, .tup ys => xs.length + ys.length ≤ sizeLine ∧ Q (.tup (xs ++ ys)) M
  | .lst xs, y => fCat (.lst xs) y M Q
  | .ref p, y => fCat (.ref p) y M Q
  | _, _ => False
def fII (C : Int → Int → Prop) (g : Int → Int → Int) (x y : D) (M : Cells) (Q : DK) : Prop := match x, y with
  | .int i, .int j => C i j ∧ Q (.int (g i j)) M
  | _, _ => False
def fSub (x y : D) (M : Cells) (Q : DK) : Prop := match x, y with
  | .int i, .int j => Q (.int (i - j)) M
  | _, _ => False
def fCmp (g : Int → Int → Bool) (x y : D) (M : Cells) (Q : DK) : Prop := match x, y with
  | .int i, .int j => Q (.bl (g i j)) M
  | _, _ => False
/-- a list or a tuple times an int -/
def fMul (x y : D) (M : Cells) (Q : DK) : Prop := match x, y with
  | .int i, .int j => CMul i j ∧ Q (.int (i * j)) M
  | .lst xs, .int k => (-(2 ^ 63) ≤ k ∧ k < 2 ^ 63 ∧ xs.length * k.toNat ≤ sizeLine) ∧ Q (.lst (List.replicate k.toNat xs).flatten) M
  | .tup xs, .int k => (xs ≠ [] ∧ 2 ≤ k ∧ k ≤ 1000 ∧ xs.length ≤ 1000) ∧ Q (.tup (List.replicate k.toNat xs).flatten) M
  | _, _ => False
def rAddAll (K : PySem.W.Frag) : R2 := fun x y H Q => rI0 (fun i j => .int (i + j)) x y H Q ∨ (∃ i j, x = .str i ∧ y = .str j ∧ i.length + j.length ≤ sizeLine ∧ Q (.str (i ++ j)) H) ∨ rCatA K x y H Q ∨ rCat x y H Q
section
variable {X : Cx} {K : PySem.W.Frag}
theorem op_addAll : OpR X (binaryOp .Add) (rAddAll X.K) := op_add.or (op_add_str.or (op_catA.or op_cat))
theorem reps_nil_iff {F : Hp} {ds : List D} {vs : List V} (r : Reps K F ds vs) : vs = [] ↔ ds = [] := by
  have h := r.len
  constructor
  · intro e; subst e; exact List.eq_nil_of_length_eq_zero h
  · intro e; subst e; exact List.eq_nil_of_length_eq_zero h.symm
theorem lr_cat {σ : L2.St} {H F : Hp} {ρ : Rho} {M : Cells} {Qd : DK} {x y : V} {dx dy : D} (S : Sta K F H σ ρ M) (rx : Rep K F dx x) (ry : Rep K F dy y) (h : fCat dx dy M Qd) {Q : VK} (q : QOk K F σ ρ Qd Q) : rCat x y H Q := by
  obtain ⟨xs, e1, ys, e2, hz, hq⟩ := h
  obtain ⟨a, vs, rfl, ha, r1⟩ := asL_ok S.toStaC rx e1
  obtain ⟨b, ws, rfl, hb, r2⟩ := asL_ok S.toStaC ry e2
  refine ⟨a, b, vs, ws, rfl, rfl, ha, hb, by rw [← r1.len, ← r2.len]; exact hz, fun p hp => q.frz S hp (d := .lst (xs ++ ys)) ⟨p, _, rfl, upd_same, (r1.append r2).mono (Same.new (S.fn hp))⟩ hq⟩
theorem lr_add : LR K (rAddAll K) fAdd := fun σ H F ρ M Qd x y dx dy S rx ry h Q q => by
  unfold fAdd at h
  split at h
  · cases (show x = _ from rx); cases (show y = _ from ry)
    exact .inl ⟨_, _, rfl, rfl, q.here S h rfl⟩
  · cases (show x = _ from rx); cases (show y = _ from ry)
    exact .inr (.inl ⟨_, _, rfl, rfl, h.1, q.here S h.2 rfl⟩)
  · rename_i xs ys
    obtain ⟨a, vs, rfl, ha, r1⟩ := rx
    obtain ⟨b, ws, rfl, hb, r2⟩ := ry
    refine .inr (.inr (.inl ⟨a, b, vs, ws, rfl, rfl, sameT S.sub ha, sameT S.sub hb, by rw [← r1.len, ← r2.len]; exact h.1, fun e => ?_, fun _ e => ?_, fun _ _ p hp => ?_⟩))
    · have z := (reps_nil_iff r1).mp e
      subst z
      exact q.here S h.2 ⟨b, ws, rfl, hb, r2⟩
    · have z := (reps_nil_iff r2).mp e
      subst z
      have h2 := h.2
      rw [List.append_nil] at h2
      exact q.here S h2 ⟨a, vs, rfl, ha, r1⟩
    · exact q.frz S hp (d := .tup (xs ++ ys)) ⟨p, _, rfl, SqT.of upd_same, (r1.append r2).mono (Same.new (S.fn hp))⟩ h.2
  · exact .inr (.inr (.inr (lr_cat S rx ry h q)))
  · exact .inr (.inr (.inr (lr_cat S rx ry h q)))
  · exact h.elim
theorem lr_ii {C : Int → Int → Prop} {g : Int → Int → Int} : LR K (rI C fun i j => .int (g i j)) (fII C g) := fun σ H F ρ M Qd x y dx dy S rx ry h Q q => by
  unfold fII at h
  split at h
  · cases (show x = _ from rx); cases (show y = _ from ry)
    exact ⟨_, _, rfl, rfl, h.1, q.here S h.2 rfl⟩
  · exact h.elim
theorem lr_sub : LR K (rI0 fun i j => .int (i - j)) fSub := fun σ H F ρ M Qd x y dx dy S rx ry h Q q => by
  unfold fSub at h
  split at h
  · cases (show x = _ from rx); cases (show y = _ from ry)
    exact ⟨_, _, rfl, rfl, q.here S h rfl⟩
  · exact h.elim
theorem lr_cmp {g : Int → Int → Bool} : LR K (rI0 fun i j => .bl (g i j)) (fCmp g) := fun σ H F ρ M Qd x y dx dy S rx ry h Q q => by
  unfold fCmp at h
  split at h
  · cases (show x = _ from rx); cases (show y = _ from ry)
    exact ⟨_, _, rfl, rfl, q.here S h rfl⟩
  · exact h.elim
def rMulAll (K : PySem.W.Frag) : R2 := fun x y H Q => rI CMul (fun i j => .int (i * j)) x y H Q ∨ rRep x y H Q ∨ rRepT K x y H Q
theorem op_mulAll : OpR X (binaryOp .Mult) (rMulAll X.K) := op_mul.or (op_rep.or op_repT)
theorem lr_mul : LR K (rMulAll K) fMul := fun σ H F ρ M Qd x y dx dy S rx ry h Q q => by
  unfold fMul at h
  split at h
  · cases (show x = _ from rx); cases (show y = _ from ry)
    exact .inl ⟨_, _, rfl, rfl, h.1, q.here S h.2 rfl⟩
  · rename_i xs k
    cases (show y = _ from ry)
    obtain ⟨a, vs, rfl, ha, r1⟩ := rx
    obtain ⟨⟨h1, h2, h3⟩, h4⟩ := h
    exact .inr (.inl ⟨a, k, vs, rfl, rfl, S.sub _ _ ha, h1, h2, by rw [← r1.len]; exact h3, fun p hp => q.frz S hp (d := .lst _) ⟨p, _, rfl, upd_same, (r1.rep _).mono (Same.new (S.fn hp))⟩ h4⟩)
  · rename_i xs k
    cases (show y = _ from ry)
    obtain ⟨a, vs, rfl, ha, r1⟩ := rx
    obtain ⟨⟨h1, h2, h3, h5⟩, h4⟩ := h
    exact .inr (.inr ⟨a, k, vs, rfl, rfl, sameT S.sub ha, fun e => h1 ((reps_nil_iff r1).mp e), h2, h3, by rw [← r1.len]; exact h5, fun p hp => q.frz S hp (d := .tup _) ⟨p, _, rfl, SqT.of upd_same, (r1.rep _).mono (Same.new (S.fn hp))⟩ h4⟩)
  · exact h.elim
def fNeg (x : D) (M : Cells) (Q : DK) : Prop := match x with
  | .int i => Q (.int (-i)) M
  | _ => False
theorem lu_neg : LU K (rU fun i => .int (-i)) fNeg := fun σ H F ρ M Qd x dx S rx h Q q => by
  unfold fNeg at h
  split at h
  · cases (show x = _ from rx)
    exact ⟨_, rfl, q.here S h rfl⟩
  · exact h.elim
variable {Ew : XK} {a b : Expr} {pos : Pos} {wa wb : WE}
theorem d_add (ha : DE X Ew a wa) (hb : DE X Ew b wb) : DE X Ew (.BinOp a .Add b pos) (wOp fAdd wa wb) := de_op op_addAll lr_add ha hb
theorem d_sub (ha : DE X Ew a wa) (hb : DE X Ew b wb) : DE X Ew (.BinOp a .Sub b pos) (wOp fSub wa wb) := de_op op_sub lr_sub ha hb
theorem d_mul (ha : DE X Ew a wa) (hb : DE X Ew b wb) : DE X Ew (.BinOp a .Mult b pos) (wOp fMul wa wb) := de_op op_mulAll lr_mul ha hb
theorem d_fdiv (ha : DE X Ew a wa) (hb : DE X Ew b wb) : DE X Ew (.BinOp a .FloorDiv b pos) (wOp (fII CDiv fun i j => i / j) wa wb) := de_op op_fdiv lr_ii ha hb
theorem d_mod (ha : DE X Ew a wa) (hb : DE X Ew b wb) : DE X Ew (.BinOp a .Mod b pos) (wOp (fII (fun _ j => 0 < j) fun i j => i % j) wa wb) := de_op op_mod lr_ii ha hb
theorem d_pow (ha : DE X Ew a wa) (hb : DE X Ew b wb) : DE X Ew (.BinOp a .Pow b pos) (wOp (fII CPow fun i j => i ^ j.toNat) wa wb) := de_op op_pow lr_ii ha hb
theorem d_neg (ha : DE X Ew a wa) : DE X Ew (.UnaryOp .USub a pos) (wUn fNeg wa) := de_un un_neg lu_neg ha
end

/-! ### tests -/
def cnd (b : Bool) (A B : Prop) : Prop := match b with
  | true => A
  | false => B
theorem cnd_i {b : Bool} {A B : Prop} (h1 : b = true → A) (h2 : b = false → B) : cnd b A B := by
  cases b with
  | true => exact h1 rfl
  | false => exact h2 rfl
theorem cnd_t {b : Bool} {A B : Prop} (h : b = true) (h1 : A) : cnd b A B := by subst h; exact h1
theorem cnd_f {b : Bool} {A B : Prop} (h : b = false) (h1 : B) : cnd b A B := by subst h; exact h1
def onB (d : D) (f : Bool → Prop) : Prop := match d with
  | .bl b => f b
  | _ => False
theorem onB_ok {K : PySem.W.Frag} {F : Hp} {v : V} : ∀ {d : D} {f : Bool → Prop}, Rep K F d v → onB d f → ∃ b, v = .bl b ∧ f b := fun {d f} r h => by
  cases d with
  | bl b => exact ⟨b, r, h⟩
  | _ => exact False.elim h
def wB (w : WE) : WT := fun ρ M E Q => w ρ M E fun d M1 => onB d fun b => Q b M1
def wAnd (a b : WT) : WT := fun ρ M E Q => a ρ M E fun c M1 => cnd c (b ρ M1 E Q) (Q false M1)
def wOr (a b : WT) : WT := fun ρ M E Q => a ρ M E fun c M1 => cnd c (Q true M1) (b ρ M1 E Q)
def wNot (a : WT) : WT := fun ρ M E Q => a ρ M E fun c M1 => Q (!c) M1
def wAndV (a b : WE) : WE := fun ρ M E Q => a ρ M E fun d M1 => onB d fun c => cnd c (b ρ M1 E Q) (Q (.bl false) M1)
def wOrV (a b : WE) : WE := fun ρ M E Q => a ρ M E fun d M1 => onB d fun c => cnd c (Q (.bl true) M1) (b ρ M1 E Q)
def wNotV (a : WE) : WE := fun ρ M E Q => a ρ M E fun d M1 => onB d fun c => Q (.bl (!c)) M1
def wIfE (t : WT) (a b : WE) : WE := fun ρ M E Q => t ρ M E fun c M1 => cnd c (a ρ M1 E Q) (b ρ M1 E Q)
section
variable {X : Cx} {K : PySem.W.Frag} {Ew : XK} {a b c e : Expr} {pos : Pos} {wa wb : WE} {va vb : WT} {rest : List Expr}
theorem lt_b {t : TE} {t' : TT} (h : LE K Ew t wa) (ht : ∀ σ H (Q : Bool → Hp → Prop), (t σ H fun x H1 => ∃ c, x = .bl c ∧ Q c H1) → t' σ H Q) : LT K Ew t' (wB wa) := fun σ H F ρ M Ed Qd S E hw Q q => by
  refine ht σ H Q (h σ H F ρ M Ed _ S E hw _ fun v H' F' d M' e1 S' r hq => ?_)
  obtain ⟨b, rfl, hq⟩ := onB_ok r hq
  exact ⟨_, rfl, q _ _ _ _ e1 S' hq⟩
theorem dt_val (h : DE X Ew e wa) (he : ∀ whole, isTrue e X.env whole = (do let v ← whole; standAt e.pos; holding [v] (truthy v)) := by intro _; rfl) : DT X Ew e (wB wa) :=
  let ⟨_, p, l⟩ := h; ⟨_, pt_val p he, lt_b l fun _ _ _ z => z⟩
theorem dt_cmp {op : CmpOp} {r : R2} {f : D → D → Cells → DK → Prop} (ho : OpR X (compareOp op) r) (hr : LR X.K r f) (ha : DE X Ew a wa) (hb : DE X Ew b wb) (hm : behindInMarks op b = false) : DT X Ew (.Compare a [op] [b] pos) (wB (wOp f wa wb)) :=
  let ⟨_, pa, la⟩ := ha; let ⟨_, pb, lb⟩ := hb; ⟨_, pt_cmpR ho pa pb hm, lt_b (le_op la lb hr) fun _ _ _ z => z⟩
theorem dw_and1 (ha : DT X Ew a va) : DW X Ew (.BoolOp .And [a] pos) va := let ⟨_, p, l⟩ := ha; ⟨_, pw_and1 p, l⟩
theorem dw_or1 (ha : DT X Ew a va) : DW X Ew (.BoolOp .Or [a] pos) va := let ⟨_, p, l⟩ := ha; ⟨_, pw_or1 p, l⟩
theorem dw_and (ha : DT X Ew a va) (hb : DW X Ew (.BoolOp .And (b :: rest) pos) vb) : DW X Ew (.BoolOp .And (a :: b :: rest) pos) (wAnd va vb) :=
  let ⟨_, pa, la⟩ := ha; let ⟨_, pb, lb⟩ := hb; ⟨_, pw_and pa pb, fun σ H F ρ M Ed Qd S E hw Q q => la σ H F ρ M Ed _ S E hw _ fun c H1 F1 M1 e1 S1 h1 => by
    cases c with
    | true => exact lb σ H1 F1 ρ M1 Ed Qd S1 (E.mono e1) h1 Q fun c2 H2 F2 M2 e2 => q c2 H2 F2 M2 (e1.trans e2)
    | false => exact q _ _ _ _ e1 S1 h1⟩
theorem dw_or (ha : DT X Ew a va) (hb : DW X Ew (.BoolOp .Or (b :: rest) pos) vb) : DW X Ew (.BoolOp .Or (a :: b :: rest) pos) (wOr va vb) :=
  let ⟨_, pa, la⟩ := ha; let ⟨_, pb, lb⟩ := hb; ⟨_, pw_or pa pb, fun σ H F ρ M Ed Qd S E hw Q q => la σ H F ρ M Ed _ S E hw _ fun c H1 F1 M1 e1 S1 h1 => by
    cases c with
    | false => exact lb σ H1 F1 ρ M1 Ed Qd S1 (E.mono e1) h1 Q fun c2 H2 F2 M2 e2 => q c2 H2 F2 M2 (e1.trans e2)
    | true => exact q _ _ _ _ e1 S1 h1⟩
theorem dw_pt (h : DW X Ew e va) : DT X Ew e va := let ⟨_, p, l⟩ := h; ⟨_, p.pt, l⟩
theorem dt_not (ha : DT X Ew a va) : DT X Ew (.UnaryOp .Not a pos) (wNot va) :=
  let ⟨_, pa, la⟩ := ha; ⟨_, pt_not pa, fun σ H F ρ M Ed Qd S E hw Q q => la σ H F ρ M Ed _ S E hw _ fun c H1 F1 M1 e1 S1 h1 => q _ _ _ _ e1 S1 h1⟩
theorem de_one {op} (h : DE X Ew a wa) : DE X Ew (.BoolOp op [a] pos) wa := let ⟨_, p, l⟩ := h; ⟨_, pe_one p, l⟩
theorem de_and (ha : DE X Ew a wa) (hb : DE X Ew (.BoolOp .And (b :: rest) pos) wb) : DE X Ew (.BoolOp .And (a :: b :: rest) pos) (wAndV wa wb) :=
  let ⟨_, pa, la⟩ := ha; let ⟨_, pb, lb⟩ := hb; ⟨_, pe_and pa pb, fun σ H F ρ M Ed Qd S E hw Q q => la σ H F ρ M Ed _ S E hw _ fun v H1 F1 d M1 e1 S1 r1 h1 => by
    obtain ⟨c, rfl, h1⟩ := onB_ok r1 h1
    refine ⟨c, rfl, ?_⟩
    cases c with
    | true => exact lb σ H1 F1 ρ M1 Ed Qd S1 (E.mono e1) h1 Q (q.mono e1)
    | false => exact (q.mono e1).here S1 h1 rfl⟩
theorem de_or (ha : DE X Ew a wa) (hb : DE X Ew (.BoolOp .Or (b :: rest) pos) wb) : DE X Ew (.BoolOp .Or (a :: b :: rest) pos) (wOrV wa wb) :=
  let ⟨_, pa, la⟩ := ha; let ⟨_, pb, lb⟩ := hb; ⟨_, pe_or pa pb, fun σ H F ρ M Ed Qd S E hw Q q => la σ H F ρ M Ed _ S E hw _ fun v H1 F1 d M1 e1 S1 r1 h1 => by
    obtain ⟨c, rfl, h1⟩ := onB_ok r1 h1
    refine ⟨c, rfl, ?_⟩
    cases c with
    | false => exact lb σ H1 F1 ρ M1 Ed Qd S1 (E.mono e1) h1 Q (q.mono e1)
    | true => exact (q.mono e1).here S1 h1 rfl⟩
theorem de_not (ha : DE X Ew a wa) : DE X Ew (.UnaryOp .Not a pos) (wNotV wa) :=
  let ⟨_, pa, la⟩ := ha; ⟨_, pe_not pa, fun σ H F ρ M Ed Qd S E hw Q q => la σ H F ρ M Ed _ S E hw _ fun v H1 F1 d M1 e1 S1 r1 h1 => by
    obtain ⟨c, rfl, h1⟩ := onB_ok r1 h1
    exact ⟨c, rfl, (q.mono e1).here S1 h1 rfl⟩⟩
theorem de_ifE (hc : DT X Ew c va) (ha : DE X Ew a wa) (hb : DE X Ew b wb) : DE X Ew (.IfExp c a b pos) (wIfE va wa wb) :=
  let ⟨_, pc, lc⟩ := hc; let ⟨_, pa, la⟩ := ha; let ⟨_, pb, lb⟩ := hb; ⟨_, pe_ifExp pc pa pb, fun σ H F ρ M Ed Qd S E hw Q q => lc σ H F ρ M Ed _ S E hw _ fun c H1 F1 M1 e1 S1 h1 => by
    cases c with
    | true => exact la σ H1 F1 ρ M1 Ed Qd S1 (E.mono e1) h1 Q (q.mono e1)
    | false => exact lb σ H1 F1 ρ M1 Ed Qd S1 (E.mono e1) h1 Q (q.mono e1)⟩
/-- a < b < c -/
def wChain (f g : D → D → Cells → DK → Prop) (wa wb wc : WE) : WE := fun ρ M E Q => wa ρ M E fun x M1 => wb ρ M1 E fun y M2 => f x y M2 fun z M3 => onB z fun k => cnd k (wc ρ M3 E fun u M4 => g y u M4 Q) (Q (.bl false) M3)
theorem le_chain {wc : WE} {r r' : R2} {f g : D → D → Cells → DK → Prop} {ta tb tc : TE} (la : LE K Ew ta wa) (lb : LE K Ew tb wb) (lc : LE K Ew tc wc) (lr : LR K r f) (lr' : LR K r' g) : LE K Ew (tChain r r' ta tb tc) (wChain f g wa wb wc) := fun σ H F ρ M Ed Qd S E h Q q =>
  la σ H F ρ M Ed _ S E h _ fun x H1 F1 dx M1 e1 S1 r1 h1 =>
    lb σ H1 F1 ρ M1 Ed _ S1 (E.mono e1) h1 _ fun y H2 F2 dy M2 e2 S2 r2 h2 =>
      lr σ H2 F2 ρ M2 _ x y dx dy S2 (r1.mono e2) r2 h2 _ fun z H3 F3 dz M3 e3 S3 r3 h3 => by
        obtain ⟨k, rfl, h3⟩ := onB_ok r3 h3
        refine ⟨k, rfl, ?_⟩
        have e13 := (e1.trans e2).trans e3
        cases k with
        | true => exact lc σ H3 F3 ρ M3 Ed _ S3 (E.mono e13) h3 _ fun u H4 F4 du M4 e4 S4 r4 h4 => lr' σ H4 F4 ρ M4 Qd y u dy du S4 (r2.mono (e3.trans e4)) r4 h4 Q (q.mono (e13.trans e4))
        | false => exact (q.mono e13).here S3 h3 rfl
theorem de_chain {wc : WE} {op op' : CmpOp} {r r' : R2} {f g : D → D → Cells → DK → Prop} (ho : OpR X (compareOp op) r) (hr : LR X.K r f) (ho' : OpR X (compareOp op') r') (hr' : LR X.K r' g) (ha : DE X Ew a wa) (hb : DE X Ew b wb) (hc : DE X Ew c wc)
    (hm : lastMarks [op, op'] [b, c] = false := by with_unfolding_all rfl) : DE X Ew (.Compare a [op, op'] [b, c] pos) (wChain f g wa wb wc) :=
  let ⟨_, pa, la⟩ := ha; let ⟨_, pb, lb⟩ := hb; let ⟨_, pc, lc⟩ := hc; ⟨_, pe_chain ho ho' pa pb pc hm, le_chain la lb lc hr hr'⟩
theorem dt_chain {wc : WE} {op op' : CmpOp} {r r' : R2} {f g : D → D → Cells → DK → Prop} (ho : OpR X (compareOp op) r) (hr : LR X.K r f) (ho' : OpR X (compareOp op') r') (hr' : LR X.K r' g) (ha : DE X Ew a wa) (hb : DE X Ew b wb) (hc : DE X Ew c wc)
    (hm : lastMarks [op, op'] [b, c] = false := by with_unfolding_all rfl) : DT X Ew (.Compare a [op, op'] [b, c] pos) (wB (wChain f g wa wb wc)) :=
  let ⟨_, pa, la⟩ := ha; let ⟨_, pb, lb⟩ := hb; let ⟨_, pc, lc⟩ := hc; ⟨_, pt_chain ho ho' pa pb pc hm, lt_b (le_chain la lb lc hr hr') fun _ _ _ z => z⟩
end

/-! ### arguments, displays -/
def wNil : WA := fun _ M _ Q => Q [] M
def wCons (w : WE) (r : WA) : WA := fun ρ M E Q => w ρ M E fun d M1 => r ρ M1 E fun ds M2 => Q (d :: ds) M2
def wTup (w : WA) : WE := fun ρ M E Q => w ρ M E fun ds M1 => ds.length ≤ sizeLine ∧ Q (.tup ds) M1
def wLst (w : WA) : WE := fun ρ M E Q => w ρ M E fun ds M1 => ds.length ≤ sizeLine ∧ Q (.lst ds) M1
/-- a list that will be written -/
def wLstC (w : WA) : WE := fun ρ M E Q => w ρ M E fun ds M1 => ds.length ≤ sizeLine ∧ ∀ p, M1 p = none → Q (.ref p) (up M1 p (.lst ds))
section
variable {X : Cx} {K : PySem.W.Frag} {Ew : XK} {e : Expr} {es : List Expr} {pos : Pos} {we : WE} {w : WA}
theorem da_nil : DA X Ew [] wNil := ⟨_, pa_nil, fun σ H F ρ M Ed Qd S E h Q q => q [] H F [] M (Same.refl F) S rfl h⟩
theorem da_cons (ha : DE X Ew e we) (hr : DA X Ew es w) (hs : starEach (e :: es) X.env = (false, eval e X.env) :: starEach es X.env := by rfl) : DA X Ew (e :: es) (wCons we w) :=
  let ⟨_, pa, la⟩ := ha; let ⟨_, pb, lb⟩ := hr; ⟨_, pa_cons pa pb hs, fun σ H F ρ M Ed Qd S E h Q q => la σ H F ρ M Ed _ S E h _ fun v H1 F1 d M1 e1 S1 r1 h1 =>
    lb σ H1 F1 ρ M1 Ed _ S1 (E.mono e1) h1 _ fun vs H2 F2 ds M2 e2 S2 r2 h2 => q _ _ _ _ _ (e1.trans e2) S2 (Reps.cons (r1.mono e2) r2) h2⟩
theorem de_tup {x1} (h : DA X Ew es w) : DE X Ew (.Tuple es x1 pos) (wTup w) :=
  let ⟨_, p, l⟩ := h; ⟨_, pe_tup p, fun σ H F ρ M Ed Qd S E h Q q => l σ H F ρ M Ed _ S E h _ fun vs H1 F1 ds M1 e1 S1 r1 h1 =>
    ⟨by rw [← r1.len]; exact h1.1, fun p hp => (q.mono e1).frz S1 hp (d := .tup ds) ⟨p, _, rfl, SqT.of upd_same, r1.mono (Same.new (S1.fn hp))⟩ h1.2⟩⟩
theorem de_lst (h : DA X Ew es w) : DE X Ew (.List es pos) (wLst w) :=
  let ⟨_, p, l⟩ := h; ⟨_, pe_lst p, fun σ H F ρ M Ed Qd S E h Q q => l σ H F ρ M Ed _ S E h _ fun vs H1 F1 ds M1 e1 S1 r1 h1 =>
    ⟨by rw [← r1.len]; exact h1.1, fun p hp => (q.mono e1).frz S1 hp (d := .lst ds) ⟨p, _, rfl, upd_same, r1.mono (Same.new (S1.fn hp))⟩ h1.2⟩⟩
theorem de_lstC (h : DA X Ew es w) : DE X Ew (.List es pos) (wLstC w) :=
  let ⟨_, p, l⟩ := h; ⟨_, pe_lst p, fun σ H F ρ M Ed Qd S E h Q q => l σ H F ρ M Ed _ S E h _ fun vs H1 F1 ds M1 e1 S1 r1 h1 =>
    ⟨by rw [← r1.len]; exact h1.1, fun p hp => q _ _ _ (.ref p) _ e1 (S1.newC hp (c := .lst ds) ⟨_, upd_same, r1⟩) rfl (h1.2 p (S1.mn hp))⟩⟩
end
end DL

set_option Elab.async false
set_option linter.all false
set_option maxRecDepth 100000
set_option maxHeartbeats 4000000
namespace DL
open PySem PySem.Spec PyProof.Rows L2

/-! ### targets -/
abbrev WG := D → Rho → Cells → EK → (Rho → Cells → Prop) → Prop
abbrev WGs := List D → Rho → Cells → EK → (Rho → Cells → Prop) → Prop
theorem wipe_get {σ : L2.St} {j : Nat} : ∀ vs : List Nat, (wipe σ vs)[j]? = if j ∈ vs then σ[j]?.map (fun _ => none) else σ[j]?
  | [] => by simp [wipe]
  | v :: vs => by
    unfold wipe
    rw [List.getElem?_set]
    by_cases h : v = j
    · subst h
      by_cases hl : v < (wipe σ vs).length
      · rw [wipe_length] at hl
        simp [hl, wipe_length, List.getElem?_eq_getElem hl]
      · rw [wipe_length] at hl
        simp [hl, wipe_length, List.getElem?_eq_none_iff.mpr (Nat.le_of_not_lt hl)]
    · rw [if_neg h, wipe_get vs]
      simp [Ne.symm h]
theorem wipe_set {σ : L2.St} {i : Nat} {x : Option V} {vs : List Nat} (h : i ∈ vs) : wipe (σ.set i x) vs = wipe σ vs := by
  apply List.ext_getElem?
  intro j
  rw [wipe_get, wipe_get, List.getElem?_set]
  by_cases hj : j ∈ vs
  · rw [if_pos hj, if_pos hj]
    by_cases e : i = j
    · subst e
      by_cases hl : i < σ.length
      · simp [hl]
      · simp [hl]
    · simp [e]
  · have e : ¬ i = j := fun z => hj (z ▸ h)
    rw [if_neg hj, if_neg hj]
    simp [e]
theorem wipe_wipe {σ : L2.St} {vs : List Nat} : wipe (wipe σ vs) vs = wipe σ vs := by
  apply List.ext_getElem?
  intro j
  rw [wipe_get, wipe_get]
  by_cases hj : j ∈ vs
  · rw [if_pos hj, if_pos hj]
    cases σ[j]? <;> rfl
  · rw [if_neg hj, if_neg hj]
def wipeR (ρ : Rho) : List Nat → Rho
  | [] => ρ
  | v :: vs => drp (wipeR ρ vs) v
theorem Slots.wipe {K : PySem.W.Frag} {F : Hp} {σ : L2.St} {ρ : Rho} (h : Slots K F σ ρ) : ∀ vs : List Nat, Slots K F (L2.wipe σ vs) (wipeR ρ vs)
  | [] => h
  | v :: vs => by unfold L2.wipe wipeR; exact (Slots.wipe h vs).drp v
def Wip (wr : List Nat) (σ σ' : L2.St) : Prop := ∀ vs : List Nat, (∀ i ∈ wr, i ∈ vs) → wipe σ' vs = wipe σ vs
def LG (K : PySem.W.Frag) (Ew : XK) (g : TG) (w : WG) (wr : List Nat) : Prop :=
  ∀ (σ : L2.St) (H F : Hp) (ρ : Rho) (M : Cells) (Ed : EK) (v : V) (d : D) (Rd : Rho → Cells → Prop), Sta K F H σ ρ M → EOk K Ew F Ed → Rep K F d v → w d ρ M Ed Rd →
    ∀ R : L2.St → Hp → Prop, (∀ σ' H' F' ρ' M', Same F F' → Sta K F' H' σ' ρ' M' → Wip wr σ σ' → Rd ρ' M' → R σ' H') → g v σ H R
def LGs (K : PySem.W.Frag) (Ew : XK) (g : TGs) (w : WGs) (wr : List Nat) : Prop :=
  ∀ (σ : L2.St) (H F : Hp) (ρ : Rho) (M : Cells) (Ed : EK) (vs : List V) (ds : List D) (Rd : Rho → Cells → Prop), Sta K F H σ ρ M → EOk K Ew F Ed → Reps K F ds vs → w ds ρ M Ed Rd →
    ∀ R : L2.St → Hp → Prop, (∀ σ' H' F' ρ' M', Same F F' → Sta K F' H' σ' ρ' M' → Wip wr σ σ' → Rd ρ' M' → R σ' H') → g vs σ H R
def DG (X : Cx) (Ew : XK) (tg : Expr) (w : WG) (wr : List Nat) : Prop := ∃ g, PG X tg g ∧ LG X.K Ew g w wr
def DGs (X : Cx) (Ew : XK) (tg : List Expr) (w : WGs) (wr : List Nat) : Prop := ∃ g, PGs X tg g ∧ LGs X.K Ew g w wr
def gwName (i : Nat) : WG := fun d ρ M _ R => R (put ρ i d) M
def gwNil : WGs := fun ds ρ M _ R => match ds with
  | [] => R ρ M
  | _ => False
def gwCons (w : WG) (r : WGs) : WGs := fun ds ρ M E R => match ds with
  | d :: ds => w d ρ M E fun ρ1 M1 => r ds ρ1 M1 E R
  | [] => False
def gwTup (r : WGs) : WG := fun d ρ M E R => match d with
  | .tup ds => r ds ρ M E R
  | _ => False
def LSet (K : PySem.W.Frag) (r : TSet) (f : D → D → D → Cells → (Cells → Prop) → Prop) : Prop :=
  ∀ (σ : L2.St) (H F : Hp) (ρ : Rho) (M : Cells) (Rd : Cells → Prop) (o i v : V) (od id vd : D), Sta K F H σ ρ M → Rep K F od o → Rep K F id i → Rep K F vd v → f od id vd M Rd →
    ∀ R : Hp → Prop, (∀ H' F' M', Same F F' → Sta K F' H' σ ρ M' → Rd M' → R H') → r o i v H R
def gwSub (wo wi : WE) (f : D → D → D → Cells → (Cells → Prop) → Prop) : WG := fun d ρ M E R => wo ρ M E fun o M1 => wi ρ M1 E fun i M2 => f o i d M2 fun M3 => R ρ M3
/-- xs[i] = v -/
def fSetL (o i v : D) (M : Cells) (R : Cells → Prop) : Prop := match o, i with
  | .ref p, .int k => onO (lstC (M p)) fun xs => onO (ixN xs.length k) fun j => R (up M p (.lst (xs.set j v)))
  | _, _ => False
section
variable {X : Cx} {K : PySem.W.Frag} {Ew : XK} {pos : Pos}
theorem dg_name {i : Nat} {x : Str} (hN : X.N.Nodup) (hi : X.N[i]? = some x := by rfl) (hx : Loc X.env.scope x := by first | exact Or.inl rfl | exact Or.inr rfl) (hf : X.fn x = true ∨ X.env.scope.names.lookup x = some .local := by first | exact .inl rfl | exact .inr rfl) :
    DG X Ew (.Name x pos) (gwName i) [i] := ⟨_, pg_name hN hi hx hf, fun σ H F ρ M Ed v d Rd S E r h R q => q _ _ F _ M (Same.refl F) (S.put i r) (fun vs hv => wipe_set (hv i (by simp))) h⟩
theorem dgs_nil : DGs X Ew [] gwNil [] := ⟨_, pgs_nil, fun σ H F ρ M Ed vs ds Rd S E r h R q => by
  cases ds with
  | nil => exact ⟨r, q σ H F ρ M (Same.refl F) S (fun _ _ => rfl) h⟩
  | cons _ _ => exact h.elim⟩
theorem dgs_cons {e : Expr} {es : List Expr} {w : WG} {r : WGs} {a b : List Nat} (h1 : DG X Ew e w a) (h2 : DGs X Ew es r b)
    (hs : (assignEach (e :: es) X.env).map (·.2) = assign e X.env :: (assignEach es X.env).map (·.2) := by rfl) : DGs X Ew (e :: es) (gwCons w r) (a ++ b) :=
  let ⟨_, p1, l1⟩ := h1; let ⟨_, p2, l2⟩ := h2; ⟨_, pgs_cons p1 p2 hs, fun σ H F ρ M Ed vs ds Rd S E r h R q => by
    cases ds with
    | nil => exact h.elim
    | cons d ds =>
      obtain ⟨v, vr, e1, r1, r2⟩ := r
      refine ⟨v, vr, e1, l1 σ H F ρ M Ed v d _ S E r1 h _ fun σ1 H1 F1 ρ1 M1 a1 S1 w1 h1 => ?_⟩
      exact l2 σ1 H1 F1 ρ1 M1 Ed vr ds Rd S1 (E.mono a1) (r2.mono a1) h1 R fun σ2 H2 F2 ρ2 M2 a2 S2 w2 h2 => q σ2 H2 F2 ρ2 M2 (a1.trans a2) S2
        (fun vs hv => (w2 vs fun i hi => hv i (List.mem_append_right _ hi)).trans (w1 vs fun i hi => hv i (List.mem_append_left _ hi))) h2⟩
theorem gwN_len {es : List Expr} {r : WGs} {wr : List Nat} {n : Nat} (h : ∀ ds ρ M E R, r ds ρ M E R → ds.length = n) : True := trivial
theorem dg_tup {es : List Expr} {k n : Nat} {r : WGs} {wr : List Nat} (hc : X.calm = true) (h : DGs X Ew es r wr) (hl : ∀ ds ρ M E R, r ds ρ M E R → ds.length = n)
    (hn : (assignEach es X.env).length = n := by rfl) (hst : (assignEach es X.env).findIdx? (·.1) = none := by rfl) : DG X Ew (.Tuple es k pos) (gwTup r) wr :=
  let ⟨_, p, l⟩ := h; ⟨_, pg_tup hc p hn hst, fun σ H F ρ M Ed v d Rd S E rr h R q => by
    cases d with
    | tup ds =>
      obtain ⟨a, vs, e1, h1, h2⟩ := rr
      exact ⟨a, vs, e1, sameT S.sub h1, by rw [← h2.len]; exact hl _ _ _ _ _ h, l σ H F ρ M Ed vs ds Rd S E h2 h R q⟩
    | _ => exact h.elim⟩
theorem gl_nil : ∀ ds ρ M E R, gwNil ds ρ M E R → ds.length = 0 := fun ds ρ M E R h => by
  cases ds with
  | nil => rfl
  | cons _ _ => exact h.elim
theorem dg_sub {o i : Expr} {wo wi : WE} {t : TSet} {f : D → D → D → Cells → (Cells → Prop) → Prop} (ho : DE X Ew o wo) (hi : DE X Ew i wi) (hs : PSet X t) (hl : LSet X.K t f)
    (ha : ∀ v, assign (.Subscript o i pos) X.env v = (do
      let ov ← holding [v] (eval o X.env)
      let iv ← holding [v, ov] (eval i X.env)
      standAt pos
      holding [v, ov, iv] (setItem ov iv v)
      release [v, ov, iv] []) := by intro _; rfl) : DG X Ew (.Subscript o i pos) (gwSub wo wi f) [] :=
  let ⟨_, p1, l1⟩ := ho; let ⟨_, p2, l2⟩ := hi; ⟨_, pg_sub p1 p2 hs ha, fun σ H F ρ M Ed v d Rd S E r h R q =>
    l1 σ H F ρ M Ed _ S E h _ fun ov H1 F1 od M1 a1 S1 r1 h1 => l2 σ H1 F1 ρ M1 Ed _ S1 (E.mono a1) h1 _ fun iv H2 F2 id M2 a2 S2 r2 h2 =>
      hl σ H2 F2 ρ M2 _ ov iv v od id d S2 (r1.mono a2) r2 (r.mono (a1.trans a2)) h2 _ fun H3 F3 M3 a3 S3 h3 => q σ H3 F3 ρ M3 ((a1.trans a2).trans a3) S3 (fun _ _ => rfl) h3⟩
theorem ls_setL : LSet K rSetL fSetL := fun σ H F ρ M Rd o i v od id vd S ro ri rv h R q => by
  unfold fSetL at h
  split at h
  · rename_i p k
    cases (show o = _ from ro); cases (show i = _ from ri)
    obtain ⟨xs, e1, j, e2, h⟩ := h
    have hm := lstC_ok e1
    obtain ⟨_, vs, h1, h2⟩ := S.cell p _ hm
    exact ⟨p, vs, k, j, rfl, rfl, h1, by rw [← h2.len]; exact e2, q _ F _ (Same.refl F) (S.setC hm (c := .lst _) ⟨_, upd_same, h2.set j rv⟩) h⟩
  · exact h.elim
end

/-! ### statements -/
def sNext : WS := fun D _ ρ M => D.nx ρ M
def sSeq (a b : WS) : WS := fun D E ρ M => a { D with nx := fun ρ1 M1 => b D E ρ1 M1 } E ρ M
def sBreak : WS := fun D _ ρ M => D.bk ρ M
def sCont : WS := fun D _ ρ M => D.ct ρ M
def sDrop (w : WE) : WS := fun D E ρ M => w ρ M E fun _ M1 => D.nx ρ M1
def sRet (w : WE) : WS := fun D E ρ M => w ρ M E D.rt
def sRetN : WS := fun D _ _ M => D.rt .non M
def sIf (t : WT) (a b : WS) : WS := fun D E ρ M => t ρ M E fun c M1 => cnd c (a D E ρ M1) (b D E ρ M1)
def sNever : WS := fun _ _ _ _ => False
def sAsg (w : WE) (g : WG) : WS := fun D E ρ M => w ρ M E fun d M1 => g d ρ M1 E D.nx
def sPar (i j : Nat) (w : WA) : WS := fun D E ρ M => w ρ M E fun ds M1 => match ds with
  | [a, b] => D.nx (put (put ρ i a) j b) M1
  | _ => False
def sPar3 (i j l : Nat) (w : WA) : WS := fun D E ρ M => w ρ M E fun ds M1 => match ds with
  | [a, b, c] => D.nx (put (put (put ρ i a) j b) l c) M1
  | _ => False
/-- the loop over what is yielded -/
structure WhileOk (t : WT) (b : WS) (D : DEnds) (E : EK) (ρ : Rho) (M : Cells) : Prop where
  ex : ∃ W : Nat → Rho → Cells → Prop, (∃ m, W m ρ M) ∧ ∀ m ρ M, W m ρ M →
    t ρ M E fun c M1 => cnd c (b { D with nx := fun ρ2 M2 => ∃ m', m' < m ∧ W m' ρ2 M2, ct := fun ρ2 M2 => ∃ m', m' < m ∧ W m' ρ2 M2, bk := D.nx } E ρ M1) (D.nx ρ M1)
def sWhile (t : WT) (b : WS) : WS := fun D E ρ M => WhileOk t b D E ρ M
section
variable {X : Cx} {K : PySem.W.Frag} {Ew : XK} {pos : Pos} {st : Stmt} {rest body orelse : List Stmt} {a b : WS} {e c : Expr} {we : WE} {wt : WT}
theorem dss_nil : DSs X Ew [] sNext := ⟨_, pss_nil, fun σ H F ρ M Ed Dd S E h D0 d => d.nx σ H F ρ M (Same.refl F) S h⟩
theorem ls_seq {t u : TS} (la : LS K Ew t a) (lb : LS K Ew u b) : LS K Ew (tSeq t u) (sSeq a b) := fun σ H F ρ M Ed Dd S E h D0 d =>
  la σ H F ρ M Ed _ S E h _ ⟨fun σ1 H1 F1 ρ1 M1 e1 S1 h1 => lb σ1 H1 F1 ρ1 M1 Ed Dd S1 (E.mono e1) h1 D0 (d.mono e1), d.bk, d.ct, d.rt⟩
theorem dss_cons (h1 : DS X Ew st a) (h2 : DSs X Ew rest b) : DSs X Ew (st :: rest) (sSeq a b) := let ⟨_, p1, l1⟩ := h1; let ⟨_, p2, l2⟩ := h2; ⟨_, pss_cons p1 p2, ls_seq l1 l2⟩
theorem dss_one (h1 : DS X Ew st a) : DSs X Ew [st] a := let ⟨_, p1, l1⟩ := h1; ⟨_, pss_one p1, l1⟩
theorem ds_pass : DS X Ew (.Pass pos) sNext := ⟨_, ps_pass, fun σ H F ρ M Ed Dd S E h D0 d => d.nx σ H F ρ M (Same.refl F) S h⟩
theorem ds_break : DS X Ew (.Break pos) sBreak := ⟨_, ps_break, fun σ H F ρ M Ed Dd S E h D0 d => d.bk σ H F ρ M (Same.refl F) S h⟩
theorem ds_cont : DS X Ew (.Continue pos) sCont := ⟨_, ps_continue, fun σ H F ρ M Ed Dd S E h D0 d => d.ct σ H F ρ M (Same.refl F) S h⟩
theorem ds_never : DS X Ew st sNever := ⟨_, ps_never, fun σ H F ρ M Ed Dd S E h D0 d => h⟩
theorem ds_expr (h : DE X Ew e we) (hs : swapsWith e none pos.line X.env = pure false := by rfl) : DS X Ew (.Expr e pos) (sDrop we) :=
  let ⟨_, p, l⟩ := h; ⟨_, ps_expr p hs, fun σ H F ρ M Ed Dd S E h D0 d => l σ H F ρ M Ed _ S E h _ fun v H1 F1 dd M1 e1 S1 r1 h1 => d.nx σ H1 F1 ρ M1 e1 S1 h1⟩
theorem ds_ret (h : DE X Ew e we) : DS X Ew (.Return (some e) pos) (sRet we) :=
  let ⟨_, p, l⟩ := h; ⟨_, ps_ret p, fun σ H F ρ M Ed Dd S E h D0 d => l σ H F ρ M Ed _ S E h _ fun v H1 F1 dd M1 e1 S1 r1 h1 => d.rt v H1 F1 dd M1 e1 S1.toStaC r1 h1⟩
theorem ds_retN : DS X Ew (.Return none pos) sRetN := ⟨_, ps_retN, fun σ H F ρ M Ed Dd S E h D0 d => d.rt .non H F .non M (Same.refl F) S.toStaC rfl h⟩
theorem ds_if (hc : DT X Ew c wt) (ha : DSs X Ew body a) (hb : DSs X Ew orelse b) : DS X Ew (.If c body orelse pos) (sIf wt a b) :=
  let ⟨_, pc, lc⟩ := hc; let ⟨_, pa, la⟩ := ha; let ⟨_, pb, lb⟩ := hb; ⟨_, ps_if pc pa pb, fun σ H F ρ M Ed Dd S E h D0 d => lc σ H F ρ M Ed _ S E h _ fun k H1 F1 M1 e1 S1 h1 => by
    cases k with
    | true => exact la σ H1 F1 ρ M1 Ed Dd S1 (E.mono e1) h1 D0 (d.mono e1)
    | false => exact lb σ H1 F1 ρ M1 Ed Dd S1 (E.mono e1) h1 D0 (d.mono e1)⟩
theorem ds_asg {tg : Expr} {g : WG} {wr : List Nat} (he : DE X Ew e we) (hg : DG X Ew tg g wr) (hs : swapsWithSole [tg] e pos.line X.env = pure false := by rfl) (hw : swappedStores [tg] e X.env = pure none := by rfl)
    (h1 : (assignEach [tg] X.env).map (·.2) = [assign tg X.env] := by rfl) : DS X Ew (.Assign [tg] e pos) (sAsg we g) :=
  let ⟨_, p, l⟩ := he; let ⟨_, pg, lg⟩ := hg; ⟨_, ps_asg p pg hs hw h1, fun σ H F ρ M Ed Dd S E h D0 d => l σ H F ρ M Ed _ S E h _ fun v H1 F1 dd M1 e1 S1 r1 h1 =>
    lg σ H1 F1 ρ M1 Ed v dd _ S1 (E.mono e1) r1 h1 _ fun σ2 H2 F2 ρ2 M2 e2 S2 _ h2 => d.nx σ2 H2 F2 ρ2 M2 (e1.trans e2) S2 h2⟩
theorem ds_par {i j : Nat} {x y : Str} {a b : Expr} {w : WA} {px py pt : Pos} {kt k2 pt2} (hc : X.calm = true) (hN : X.N.Nodup) (ha : DA X Ew [a, b] w) (hi : X.N[i]? = some x := by rfl) (hj : X.N[j]? = some y := by rfl) (hij : i ≠ j := by decide)
    (hx : X.env.scope.names.lookup x = some .local := by rfl) (hy : X.env.scope.names.lookup y = some .local := by rfl)
    (hw : swappedStores [.Tuple [.Name x px, .Name y py] kt pt] (.Tuple [a, b] k2 pt2) X.env = pure (some [x, y]) := by rfl)
    (hs : swapsWithSole [.Tuple [.Name x px, .Name y py] kt pt] (.Tuple [a, b] k2 pt2) pos.line X.env = pure false := by rfl) :
    DS X Ew (.Assign [.Tuple [.Name x px, .Name y py] kt pt] (.Tuple [a, b] k2 pt2) pos) (sPar i j w) :=
  let ⟨_, p, l⟩ := ha; ⟨_, ps_par hc hN hi hj hij hx hy p hw hs, fun σ H F ρ M Ed Dd S E h D0 d => l σ H F ρ M Ed _ S E h _ fun vs H1 F1 ds M1 e1 S1 r1 h1 => by
    match ds, r1, h1 with
    | [a, b], ⟨v, _, ev, rv, ⟨u, _, eu, ru, en⟩⟩, h1 =>
      have en' : _ = [] := en
      subst en'; subst eu; subst ev
      exact ⟨v, u, rfl, d.nx _ _ F1 _ M1 e1 ((S1.put i rv).put j ru) h1⟩
    | [], _, h1 => exact h1.elim
    | [_], _, h1 => exact h1.elim
    | _ :: _ :: _ :: _, _, h1 => exact h1.elim⟩
theorem ds_par3 {i j l : Nat} {x y z : Str} {a b c : Expr} {w : WA} {px py pz pt : Pos} {kt k2 pt2} (hc : X.calm = true) (hN : X.N.Nodup) (ha : DA X Ew [a, b, c] w) (hi : X.N[i]? = some x := by rfl) (hj : X.N[j]? = some y := by rfl) (hl : X.N[l]? = some z := by rfl)
    (hij : i ≠ j := by decide) (hil : i ≠ l := by decide) (hjl : j ≠ l := by decide)
    (hx : X.env.scope.names.lookup x = some .local := by rfl) (hy : X.env.scope.names.lookup y = some .local := by rfl) (hz : X.env.scope.names.lookup z = some .local := by rfl)
    (hw : swappedStores [.Tuple [.Name x px, .Name y py, .Name z pz] kt pt] (.Tuple [a, b, c] k2 pt2) X.env = pure (some [x, y, z]) := by rfl)
    (hs : swapsWithSole [.Tuple [.Name x px, .Name y py, .Name z pz] kt pt] (.Tuple [a, b, c] k2 pt2) pos.line X.env = pure false := by rfl) :
    DS X Ew (.Assign [.Tuple [.Name x px, .Name y py, .Name z pz] kt pt] (.Tuple [a, b, c] k2 pt2) pos) (sPar3 i j l w) :=
  let ⟨_, p, l'⟩ := ha; ⟨_, ps_par3 hc hN hi hj hl hij hil hjl hx hy hz p hw hs, fun σ H F ρ M Ed Dd S E h D0 d => l' σ H F ρ M Ed _ S E h _ fun vs H1 F1 ds M1 e1 S1 r1 h1 => by
    match ds, r1, h1 with
    | [a, b, c], ⟨v, _, ev, rv, ⟨u, _, eu, ru, ⟨t, _, et, rt, en⟩⟩⟩, h1 =>
      have en' : _ = [] := en
      subst en'; subst et; subst eu; subst ev
      exact ⟨v, u, t, rfl, d.nx _ _ F1 _ M1 e1 (((S1.put i rv).put j ru).put l rt) h1⟩
    | [], _, h1 => exact h1.elim
    | [_], _, h1 => exact h1.elim
    | [_, _], _, h1 => exact h1.elim
    | _ :: _ :: _ :: _ :: _, _, h1 => exact h1.elim⟩
theorem ds_while (hp : PassesOwn (model X.prog X.w) X.A X.env X.xe) (hc : DT X Ew c wt) (hb : DSs X Ew body b) : DS X Ew (.While c body [] pos) (sWhile wt b) :=
  let ⟨_, pc, lc⟩ := hc; let ⟨_, pb, lb⟩ := hb; ⟨_, ps_while hp pc pb, fun σ H F ρ M Ed Dd S E h D0 d => by
    obtain ⟨W, ⟨m, w0⟩, hw⟩ := WhileOk.ex h
    refine ⟨fun m σ' H' => ∃ F' ρ' M', Same F F' ∧ Sta X.K F' H' σ' ρ' M' ∧ W m ρ' M', ⟨m, F, ρ, M, Same.refl F, S, w0⟩, fun m σ1 H1 ⟨F1, ρ1, M1, e1, S1, w1⟩ => ?_⟩
    refine lc σ1 H1 F1 ρ1 M1 Ed _ S1 (E.mono e1) (hw m ρ1 M1 w1) _ fun k H2 F2 M2 e2 S2 h2 => ?_
    cases k with
    | false => exact d.nx σ1 H2 F2 ρ1 M2 (e1.trans e2) S2 h2
    | true =>
      refine ⟨fun σ' H' => ∃ m', m' < m ∧ ∃ F' ρ' M', Same F F' ∧ Sta X.K F' H' σ' ρ' M' ∧ W m' ρ' M', fun _ _ z => z, ?_⟩
      refine lb σ1 H2 F2 ρ1 M2 Ed _ S2 (E.mono (e1.trans e2)) h2 _ ⟨?_, ?_, ?_, ?_⟩
      · exact fun σ3 H3 F3 ρ3 M3 e3 S3 ⟨m', hm, hw'⟩ => ⟨m', hm, F3, ρ3, M3, (e1.trans e2).trans e3, S3, hw'⟩
      · exact fun σ3 H3 F3 ρ3 M3 e3 S3 h3 => d.nx σ3 H3 F3 ρ3 M3 ((e1.trans e2).trans e3) S3 h3
      · exact fun σ3 H3 F3 ρ3 M3 e3 S3 ⟨m', hm, hw'⟩ => ⟨m', hm, F3, ρ3, M3, (e1.trans e2).trans e3, S3, hw'⟩
      · exact fun v H3 F3 dd M3 e3 S3 r3 h3 => d.rt v H3 F3 dd M3 ((e1.trans e2).trans e3) S3 r3 h3⟩
end

/-! ### what is walked -/
abbrev WI := Rho → Cells → EK → (List D → (Cells → Prop) → Cells → Prop) → Prop
structure ItOk (K : PySem.W.Frag) (F : Hp) (J : It) (ds : List D) (chk : Cells → Prop) : Prop where
  go : ∀ (F2 H : Hp) (M : Cells) (i : Nat), Same F F2 → StaC K F2 H M → chk M → i < ds.length → J.go i H
  yld : ∀ (F2 H : Hp) (σ : L2.St) (ρ : Rho) (M : Cells) (i : Nat) (x : V) (H' : Hp), Same F F2 → Sta K F2 H σ ρ M → chk M → J.yld i H x H' → i < ds.length → ∃ F3 d, Same F2 F3 ∧ Sta K F3 H' σ ρ M ∧ ds[i]? = some d ∧ Rep K F3 d x
  stop : ∀ (F2 H : Hp) (M : Cells) (i : Nat), Same F F2 → StaC K F2 H M → chk M → ds.length ≤ i → J.stop i H
def LI (K : PySem.W.Frag) (Ew : XK) (t : TI) (w : WI) : Prop :=
  ∀ (σ : L2.St) (H F : Hp) (ρ : Rho) (M : Cells) (Ed : EK) (Rd : List D → (Cells → Prop) → Cells → Prop), Sta K F H σ ρ M → EOk K Ew F Ed → w ρ M Ed Rd →
    ∀ R : It → Hp → Prop, (∀ J H' F' ds chk M', Same F F' → Sta K F' H' σ ρ M' → ItOk K F' J ds chk → Rd ds chk M' → R J H') → t σ H R
def DI (X : Cx) (Ew : XK) (tg e : Expr) (w : WI) : Prop := ∃ t, PI X tg e t ∧ LI X.K Ew t w
structure ForOk (chk : Cells → Prop) (g : WG) (b : WS) (D0 : DEnds) (E : EK) (ds : List D) (ρ : Rho) (M : Cells) : Prop where
  ex : ∃ W : Nat → Rho → Cells → Prop, W 0 ρ M ∧ ∀ i ρ M, i ≤ ds.length → W i ρ M → chk M ∧ (∀ d, ds[i]? = some d → g d ρ M E fun ρ1 M1 => b { D0 with nx := W (i + 1), ct := W (i + 1), bk := D0.nx } E ρ1 M1) ∧ (i = ds.length → D0.nx ρ M)
def sFor (wi : WI) (g : WG) (b : WS) : WS := fun D0 E ρ M => wi ρ M E fun ds chk M1 => ForOk chk g b D0 E ds ρ M1
section
variable {X : Cx} {K : PySem.W.Frag} {Ew : XK} {pos : Pos} {body : List Stmt} {b : WS} {iter tg : Expr} {wi : WI} {g : WG} {wr : List Nat}
theorem get_drop {α : Type} {ds : List α} {i : Nat} {d : α} (h : ds[i]? = some d) : ds.drop i = d :: ds.drop (i + 1) := by
  have hl := (List.getElem?_eq_some_iff.mp h).1
  rw [List.drop_eq_getElem_cons hl]
  rw [(List.getElem?_eq_some_iff.mp h).2]
theorem ds_for (hp : PassesOwn (model X.prog X.w) X.A X.env X.xe) (hc : X.calm = true) (hi : DI X Ew tg iter wi) (hg : DG X Ew tg g wr) (hb : DSs X Ew body b) (hs : ∀ x, foldedSetIterable iter X.env x = pure x := by intro _; rfl) : DS X Ew (.For tg iter body [] pos) (sFor wi g b) :=
  let ⟨_, pi, li⟩ := hi; let ⟨_, pg, lg⟩ := hg; let ⟨_, pb, lb⟩ := hb; ⟨_, ps_for hp hc pi pg pb hs, fun σ H F ρ M Ed Dd S E h D0 d => by
    refine li σ H F ρ M Ed _ S E h _ fun J H1 F1 ds chk M1 e1 S1 it h1 => ?_
    obtain ⟨W, w0, hw⟩ := ForOk.ex h1
    refine ⟨fun i m σ' H' => m = ds.length - i ∧ i ≤ ds.length ∧ ∃ F' ρ' M', Same F1 F' ∧ Sta X.K F' H' σ' ρ' M' ∧ W i ρ' M', ⟨ds.length, rfl, Nat.zero_le _, F1, ρ, M1, Same.refl F1, S1, w0⟩, ?_⟩
    rintro i m σ2 H2 ⟨rfl, hi, F2, ρ2, M2, e2, S2, h2⟩
    obtain ⟨hk, h3, h4⟩ := hw i ρ2 M2 hi h2
    by_cases hl : i < ds.length
    · have hd : ds[i]? = some ds[i] := List.getElem?_eq_getElem hl
      have h2 := h3 _ hd
      refine .inr ⟨it.go F2 H2 M2 i e2 S2.toStaC hk hl, fun σ' H' => i + 1 ≤ ds.length ∧ ∃ F' ρ' M', Same F1 F' ∧ Sta X.K F' H' σ' ρ' M' ∧ W (i + 1) ρ' M', fun σ' H' z => ⟨ds.length - (i + 1), by omega, rfl, z⟩, fun x H' hy => ?_⟩
      obtain ⟨F3, dd, e3, S3, hdd, r3⟩ := it.yld F2 H2 σ2 ρ2 M2 i x H' e2 S2 hk hy hl
      rw [hd] at hdd; cases hdd
      have e13 := e1.trans (e2.trans e3)
      refine lg σ2 H' F3 ρ2 M2 Ed x _ _ S3 (E.mono e13) r3 h2 _ fun σ4 H4 F4 ρ4 M4 e4 S4 _ h4 => ?_
      refine lb σ4 H4 F4 ρ4 M4 Ed _ S4 (E.mono (e13.trans e4)) h4 _ ⟨?_, ?_, ?_, ?_⟩
      · exact fun σ5 H5 F5 ρ5 M5 e5 S5 h5 => ⟨hl, F5, ρ5, M5, ((e2.trans e3).trans e4).trans e5, S5, h5⟩
      · exact fun σ5 H5 F5 ρ5 M5 e5 S5 h5 => d.nx σ5 H5 F5 ρ5 M5 ((e13.trans e4).trans e5) S5 h5
      · exact fun σ5 H5 F5 ρ5 M5 e5 S5 h5 => ⟨hl, F5, ρ5, M5, ((e2.trans e3).trans e4).trans e5, S5, h5⟩
      · exact fun v H5 F5 dd M5 e5 S5 r5 h5 => d.rt v H5 F5 dd M5 ((e13.trans e4).trans e5) S5 r5 h5
    · exact .inl ⟨it.stop F2 H2 M2 i e2 S2.toStaC hk (Nat.le_of_not_lt hl), d.nx σ2 H2 F2 ρ2 M2 (e1.trans e2) S2 (h4 (by omega))⟩⟩
/-- turn by turn, over a list that is known -/
def forD (chk : Cells → Prop) (g : WG) (b : WS) (D0 : DEnds) (E : EK) : List D → Rho → Cells → Prop
  | [], ρ, M => chk M ∧ D0.nx ρ M
  | d :: ds, ρ, M => chk M ∧ g d ρ M E fun ρ1 M1 => b { D0 with nx := forD chk g b D0 E ds, ct := forD chk g b D0 E ds, bk := D0.nx } E ρ1 M1
theorem ForOk.unroll {chk : Cells → Prop} {D0 : DEnds} {E : EK} {ds : List D} {ρ : Rho} {M : Cells} (h : forD chk g b D0 E ds ρ M) : ForOk chk g b D0 E ds ρ M :=
  ⟨fun i => forD chk g b D0 E (ds.drop i), h, fun i ρ M hi hw0 => by
    have hw : forD chk g b D0 E (ds.drop i) ρ M := hw0
    by_cases hl : i < ds.length
    · have hd : ds[i]? = some ds[i] := List.getElem?_eq_getElem hl
      rw [get_drop hd] at hw
      refine ⟨hw.1, fun d e => ?_, fun e => by omega⟩
      rw [hd] at e
      cases e
      exact hw.2
    · rw [List.drop_eq_nil_of_le (Nat.le_of_not_lt hl)] at hw
      exact ⟨hw.1, (fun d e => by rw [List.getElem?_eq_none_iff.mpr (Nat.le_of_not_lt hl)] at e; cases e), fun _ => hw.2⟩⟩
/-- over a typed list: pre has been taken, d comes, post is left -/
theorem ForOk.typed {α : Type} {chk : Cells → Prop} {D0 : DEnds} {E : EK} {xs : List α} {f : α → D} {ρ : Rho} {M : Cells} (I : List α → Rho → Cells → Prop) (h0 : I [] ρ M)
    (hc : ∀ pre ρ M, I pre ρ M → chk M) (hs : ∀ pre x post ρ M, xs = pre ++ x :: post → I pre ρ M → g (f x) ρ M E fun ρ1 M1 => b { D0 with nx := I (pre ++ [x]), ct := I (pre ++ [x]), bk := D0.nx } E ρ1 M1)
    (hd : ∀ ρ M, I xs ρ M → D0.nx ρ M) : ForOk chk g b D0 E (xs.map f) ρ M :=
  ⟨fun i => I (xs.take i), by simpa using h0, fun i ρ M hi hw => by
    rw [List.length_map] at hi
    refine ⟨hc _ _ _ hw, fun d e => ?_, fun e => ?_⟩
    · rw [List.getElem?_map] at e
      obtain ⟨x, hx, rfl⟩ := Option.map_eq_some_iff.mp e
      have z : xs = xs.take i ++ x :: xs.drop (i + 1) := by rw [← get_drop hx, List.take_append_drop]
      have z2 : xs.take (i + 1) = xs.take i ++ [x] := by rw [List.take_succ, hx]; rfl
      have r := hs (xs.take i) x (xs.drop (i + 1)) ρ M z hw
      rw [← z2] at r
      exact r
    · rw [List.length_map] at e
      rw [e, List.take_length] at hw
      exact hd ρ M hw⟩
end
end DL

set_option Elab.async false
set_option linter.all false
set_option maxRecDepth 100000
set_option maxHeartbeats 4000000
namespace DL
open PySem PySem.Spec PyProof.Rows L2

/-! ### sources of walks -/
theorem PI.or {X : Cx} {tg e : Expr} {a b : TI} (h1 : PI X tg e a) (h2 : PI X tg e b) : PI X tg e (fun σ H R => a σ H R ∨ b σ H R) :=
  ⟨fun pins s σ H R I h => h.elim (fun z => h1.run pins s σ H R I z) (fun z => h2.run pins s σ H R I z)⟩
/-- a list or a tuple walked; a written list must stay -/
def iwSeq (w : WE) : WI := fun ρ M E R => w ρ M E fun d M1 => match d with
  | .ref p => onO (lstC (M1 p)) fun ds => R ds (fun M2 => M2 p = some (.lst ds)) M1
  | .lst ds => R ds (fun _ => True) M1
  | .ro ds => R ds (fun _ => True) M1
  | .tup ds => R ds (fun _ => True) M1
  | _ => False
def on1 (vs : List D) (f : D → Prop) : Prop := match vs with
  | [d] => f d
  | _ => False
def on2 (vs : List D) (f : D → D → Prop) : Prop := match vs with
  | [d, e] => f d e
  | _ => False
def onI (d : D) (f : Int → Prop) : Prop := match d with
  | .int i => f i
  | _ => False
theorem on1_ok {vs : List D} {f : D → Prop} (h : on1 vs f) : ∃ d, vs = [d] ∧ f d := by
  unfold on1 at h
  split at h
  · exact ⟨_, rfl, h⟩
  · exact h.elim
theorem on2_ok {vs : List D} {f : D → D → Prop} (h : on2 vs f) : ∃ d e, vs = [d, e] ∧ f d e := by
  unfold on2 at h
  split at h
  · exact ⟨_, _, rfl, h⟩
  · exact h.elim
theorem onI_ok {d : D} {f : Int → Prop} (h : onI d f) : ∃ i, d = .int i ∧ f i := by
  unfold onI at h
  split at h
  · exact ⟨_, rfl, h⟩
  · exact h.elim
theorem reps1 {K : PySem.W.Frag} {F : Hp} {d : D} {vs : List V} (r : Reps K F [d] vs) : ∃ v, vs = [v] ∧ Rep K F d v := by
  obtain ⟨v, rr, e, r1, r2⟩ := r
  have e2 : rr = [] := r2
  subst e2
  exact ⟨v, e, r1⟩
theorem reps2 {K : PySem.W.Frag} {F : Hp} {d e : D} {vs : List V} (r : Reps K F [d, e] vs) : ∃ v u, vs = [v, u] ∧ Rep K F d v ∧ Rep K F e u := by
  obtain ⟨v, rr, e1, r1, r2⟩ := r
  obtain ⟨u, rfl, r3⟩ := reps1 r2
  exact ⟨v, u, e1, r1, r3⟩
def iwRng1 (w : WA) : WI := fun ρ M E R => w ρ M E fun vs M1 => on1 vs fun d => onI d fun j => (-(2 ^ 62) ≤ j ∧ j < 2 ^ 62) ∧ R ((List.range j.toNat).map fun k => D.int (k : Nat)) (fun _ => True) M1
def iwRng2 (w : WA) : WI := fun ρ M E R => w ρ M E fun vs M1 => on2 vs fun d e => onI d fun i => onI e fun j =>
  (-(2 ^ 62) ≤ i ∧ i < 2 ^ 62 ∧ -(2 ^ 62) ≤ j ∧ j < 2 ^ 62) ∧ R ((List.range (j - i).toNat).map fun k => D.int (i + (k : Nat))) (fun _ => True) M1
section
variable {K : PySem.W.Frag} {F H : Hp} {M : Cells}
/-- two lists read at one place are one -/
theorem sqL_of_cell {a : Addr} {vs xs : List V} (h : H a = some (.lst vs)) (h' : Rd H a (.lst xs)) : xs = vs := by
  rcases h' with h' | ⟨o, h'⟩
  · rw [h] at h'; cases h'; rfl
  · rw [h] at h'; cases h'
theorem it_list {a : Addr} {vs : List V} {ds : List D} {chk : Cells → Prop} (h : ∀ F2 H M, Same F F2 → StaC K F2 H M → chk M → SqL K H a vs ∧ Reps K F2 ds vs) : ItOk K F (Itl K a) ds chk where
  go := fun F2 H M i e S c hi => by
    obtain ⟨h1, h2⟩ := h F2 H M e S c
    obtain ⟨v, hv, _⟩ := h2.get (List.getElem?_eq_getElem hi)
    exact ⟨vs, v, h1, hv⟩
  yld := fun F2 H σ ρ M i x H' e S c hy hi => by
    obtain ⟨h1, h2⟩ := h F2 H M e S.toStaC c
    obtain ⟨rfl, hx⟩ := hy
    obtain ⟨d, hd, r⟩ := h2.getV (hx vs h1)
    exact ⟨F2, d, Same.refl F2, S, hd, r⟩
  stop := fun F2 H M i e S c hi => by
    obtain ⟨h1, h2⟩ := h F2 H M e S c
    exact ⟨vs, h1, by rw [← h2.len]; exact hi⟩
theorem it_tup {a : Addr} {vs : List V} {ds : List D} {chk : Cells → Prop} (h : ∀ F2 H M, Same F F2 → StaC K F2 H M → chk M → SqT K H a vs ∧ Reps K F2 ds vs) : ItOk K F (Itt K a) ds chk where
  go := fun F2 H M i e S c hi => by
    obtain ⟨h1, h2⟩ := h F2 H M e S c
    obtain ⟨v, hv, _⟩ := h2.get (List.getElem?_eq_getElem hi)
    exact ⟨vs, v, h1, hv⟩
  yld := fun F2 H σ ρ M i x H' e S c hy hi => by
    obtain ⟨h1, h2⟩ := h F2 H M e S.toStaC c
    obtain ⟨rfl, hx⟩ := hy
    obtain ⟨d, hd, r⟩ := h2.getV (hx vs h1)
    exact ⟨F2, d, Same.refl F2, S, hd, r⟩
  stop := fun F2 H M i e S c hi => by
    obtain ⟨h1, h2⟩ := h F2 H M e S c
    exact ⟨vs, h1, by rw [← h2.len]; exact hi⟩
theorem it_rng {lo : Int} {n : Nat} : ItOk K F (Itr lo n) ((List.range n).map fun k => D.int (lo + (k : Nat))) (fun _ => True) where
  go := fun F2 H M i e S c hi => by
    show i < n
    simpa using hi
  yld := fun F2 H σ ρ M i x H' e S c hy hi => by
    obtain ⟨rfl, rfl⟩ := hy
    refine ⟨F2, .int (lo + (i : Nat)), Same.refl F2, S, ?_, rfl⟩
    have hi' : i < n := by simpa using hi
    simp [List.getElem?_map, List.getElem?_range hi']
  stop := fun F2 H M i e S c hi => by
    show n ≤ i
    simpa using hi
theorem mapIdx_get {ds : List D} {i : Nat} {f : Nat → D → D} : (ds.mapIdx f)[i]? = (ds[i]?).map (f i) := by simp
theorem it_enum {J : It} {a : Addr} {vs : List V} {ds : List D} {chk : Cells → Prop} (hg : ∀ i H, J.go i H = (Ite K a).go i H) (hy' : ∀ i H v H', J.yld i H v H' = (Ite K a).yld i H v H') (hs : ∀ i H, J.stop i H = (Ite K a).stop i H)
    (h : ∀ F2 H M, Same F F2 → StaC K F2 H M → chk M → SqL K H a vs ∧ Reps K F2 ds vs) : ItOk K F J (ds.mapIdx fun k d => .tup [.int (k : Nat), d]) chk where
  go := fun F2 H M i e S c hi => by
    rw [hg]
    obtain ⟨h1, h2⟩ := h F2 H M e S c
    rw [List.length_mapIdx] at hi
    obtain ⟨v, hv, _⟩ := h2.get (List.getElem?_eq_getElem hi)
    exact ⟨vs, v, h1, hv⟩
  yld := fun F2 H σ ρ M i x H' e S c hy hi => by
    rw [hy'] at hy
    obtain ⟨h1, h2⟩ := h F2 H M e S.toStaC c
    obtain ⟨T, y, rfl, hT, rfl, hx⟩ := hy
    obtain ⟨d, hd, r⟩ := h2.getV (hx vs h1)
    have e2 := Same.new (o := .tup [.int (i : Nat), y]) (S.fn hT)
    refine ⟨_, .tup [.int (i : Nat), d], e2, S.frz hT _, by rw [mapIdx_get, hd]; rfl, T, _, rfl, SqT.of upd_same, Reps.cons rfl (Reps.cons (r.mono e2) Reps.nil)⟩
  stop := fun F2 H M i e S c hi => by
    rw [hs]
    obtain ⟨h1, h2⟩ := h F2 H M e S c
    rw [List.length_mapIdx] at hi
    exact ⟨vs, h1, by rw [← h2.len]; exact hi⟩
end
/-- a list or a tuple, whichever comes -/
def iSeq (K : PySem.W.Frag) (tl : TE) : TI := fun σ H R => tl σ H fun x H1 => ∃ a, x = .ref a ∧ (((∃ xs, SqL K H1 a xs) ∧ R (Itl K a) H1) ∨ ((∃ xs, SqT K H1 a xs) ∧ R (Itt K a) H1))
theorem pi_seq {X : Cx} {tg l : Expr} {tl : TE} (hl : PE X l tl) : PI X tg l (iSeq X.K tl) := by
  refine ⟨fun pins s0 σ H R I h => thn (hl.run pins s0 σ H _ I h) fun v sA hA => ?_⟩
  obtain ⟨x, HA, IA, rA, a, rfl, hB⟩ := hA
  cases rA
  have nw : ∀ b ∈ [sA.heap.objs.size], FpOk X pins HA b := fun b hb => by
    cases (List.mem_singleton.mp hb)
    exact IA.fpOk (Nat.le_refl _) (IA.hok.fresh (Nat.le_refl _))
  rcases hB with ⟨⟨xs, hq⟩, q⟩ | ⟨⟨xs, hq⟩, q⟩
  · obtain ⟨its, rv, pl, _⟩ := IA.list hq
    exact wpAny_pyIter_list pl.isList ⟨sA.heap.objs.size, _, _, _, HA, rfl, (IA.kept (t' := sA.toks) fun b o e => Heap.get?_push_of_some _ e), turn_list a _, ⟨_, Heap.get?_push_size _ rfl, rfl, rfl⟩, nw, q⟩
  · obtain ⟨its, rv, pl, _⟩ := IA.tuple hq
    exact wpAny_pyIter_tuple (show sA.heap.IsTuple a its.toArray from pl) ⟨sA.heap.objs.size, _, _, _, HA, rfl, (IA.kept (t' := sA.toks) fun b o e => Heap.get?_push_of_some _ e), turn_tuple a _, ⟨_, Heap.get?_push_size _ rfl, rfl, rfl⟩, nw, q⟩
section
variable {X : Cx} {K : PySem.W.Frag} {Ew : XK} {pos p : Pos} {tg e : Expr} {we : WE}
theorem li_seq {t : TE} (l : LE K Ew t we) : LI K Ew (iSeq K t) (iwSeq we) := fun σ H F ρ M Ed Rd S E h R q =>
  l σ H F ρ M Ed _ S E h _ fun v H1 F1 d M1 e1 S1 r1 h1 => by
    cases d with
    | ref p =>
      obtain ⟨ds, e2, h1⟩ := h1
      cases (show v = _ from r1)
      have hm := lstC_ok e2
      obtain ⟨_, vs, hv, hr⟩ := S1.cell p _ hm
      refine ⟨p, rfl, .inl ⟨⟨vs, SqL.of hv⟩, q _ H1 F1 ds _ M1 e1 S1 ?_ h1⟩⟩
      refine ⟨fun F2 H2 M2 i e S2 c hi => ?_, fun F2 H2 σ2 ρ2 M2 i x H' e S2 c hy hi => ?_, fun F2 H2 M2 i e S2 c hi => ?_⟩
      · obtain ⟨_, ws, hw, hr2⟩ := S2.cell p _ c
        obtain ⟨v, hv2, _⟩ := hr2.get (List.getElem?_eq_getElem hi)
        exact ⟨ws, v, SqL.of hw, hv2⟩
      · obtain ⟨_, ws, hw, hr2⟩ := S2.cell p _ c
        obtain ⟨rfl, hx⟩ := hy
        obtain ⟨d, hd, r⟩ := hr2.getV (hx ws (SqL.of hw))
        exact ⟨F2, d, Same.refl F2, S2, hd, r⟩
      · obtain ⟨_, ws, hw, hr2⟩ := S2.cell p _ c
        exact ⟨ws, SqL.of hw, by rw [← hr2.len]; exact hi⟩
    | lst ds =>
      obtain ⟨a, vs, rfl, ha, hr⟩ := r1
      exact ⟨a, rfl, .inl ⟨⟨vs, SqL.of (S1.sub _ _ ha)⟩, q _ H1 F1 ds _ M1 e1 S1 (it_list fun F2 H2 M2 e S2 _ => ⟨SqL.of (S2.sub _ _ (e _ _ ha)), hr.mono e⟩) h1⟩⟩
    | ro ds =>
      obtain ⟨a, vs, rfl, ha, hr⟩ := r1
      exact ⟨a, rfl, .inl ⟨⟨vs, S1.sub.seq ha⟩, q _ H1 F1 ds _ M1 e1 S1 (it_list fun F2 H2 M2 e S2 _ => ⟨(e.trans S2.sub).seq ha, hr.mono e⟩) h1⟩⟩
    | tup ds =>
      obtain ⟨a, vs, rfl, ha, hr⟩ := r1
      exact ⟨a, rfl, .inr ⟨⟨vs, sameT S1.sub ha⟩, q _ H1 F1 ds _ M1 e1 S1 (it_tup fun F2 H2 M2 e S2 _ => ⟨sameT (e.trans S2.sub) ha, hr.mono e⟩) h1⟩⟩
    | _ => exact h1.elim
theorem di_seq (h : DE X Ew e we) : DI X Ew tg e (iwSeq we) := let ⟨_, pe, l⟩ := h; ⟨_, pi_seq pe, li_seq l⟩
theorem di_rng1 {a : Expr} {w : WA} (hm : X.mg "range" = none) (ha : DA X Ew [a] w) (hg : Gl X "range" := by rfl) (hs : starEach [a] X.env = [(false, eval a X.env)] := by rfl) : DI X Ew tg (.Call (.Name "range" p) [a] [] pos) (iwRng1 w) :=
  let ⟨_, pa, la⟩ := ha; ⟨_, pi_range1 hg hm pa hs, fun σ H F ρ M Ed Rd S E h R q => la σ H F ρ M Ed _ S E h _ fun vs H1 F1 ds M1 e1 S1 r1 h1 => by
    obtain ⟨d, rfl, h1⟩ := on1_ok h1
    obtain ⟨j, rfl, h1⟩ := onI_ok h1
    obtain ⟨v, rfl, rv⟩ := reps1 r1
    cases (show v = V.int j from rv)
    · refine ⟨j, rfl, h1.1.1, h1.1.2, q _ H1 F1 _ _ M1 e1 S1 ?_ h1.2⟩
      have z := it_rng (K := X.K) (F := F1) (lo := 0) (n := j.toNat)
      simpa using z⟩
theorem di_rng2 {a b : Expr} {w : WA} (hm : X.mg "range" = none) (ha : DA X Ew [a, b] w) (hg : Gl X "range" := by rfl) (hs : starEach [a, b] X.env = [(false, eval a X.env), (false, eval b X.env)] := by rfl) (hs2 : starEach [b] X.env = [(false, eval b X.env)] := by rfl) :
    DI X Ew tg (.Call (.Name "range" p) [a, b] [] pos) (iwRng2 w) :=
  let ⟨_, pa, la⟩ := ha; ⟨_, pi_range2 hg hm pa hs hs2, fun σ H F ρ M Ed Rd S E h R q => la σ H F ρ M Ed _ S E h _ fun vs H1 F1 ds M1 e1 S1 r1 h1 => by
    obtain ⟨d, e, rfl, h1⟩ := on2_ok h1
    obtain ⟨i, rfl, h1⟩ := onI_ok h1
    obtain ⟨j, rfl, h1⟩ := onI_ok h1
    obtain ⟨v, u, rfl, rv, ru⟩ := reps2 r1
    cases (show v = V.int i from rv)
    cases (show u = V.int j from ru)
    · exact ⟨i, j, rfl, h1.1, q _ H1 F1 _ _ M1 e1 S1 it_rng h1.2⟩⟩
end

/-! ### comprehensions -/
structure LcOk (p : Addr) (chk : Cells → Prop) (g : WG) (tt : WT) (te : WE) (ρ : Rho) (fin : List D → Cells → Prop) (ds : List D) (M : Cells) : Prop where
  ex : ∃ W : Nat → List D → Cells → Prop, W 0 [] M ∧ ∀ i acc M, i ≤ ds.length → W i acc M → chk M ∧ M p = some (.lst acc) ∧
    (∀ d, ds[i]? = some d → acc.length < sizeLine ∧ g d ρ M (fun _ _ => False) fun ρ2 M2 => tt ρ2 M2 (fun _ _ => False) fun b M3 =>
      cnd b (te ρ2 M3 (fun _ _ => False) fun y M4 => M4 p = some (.lst acc) ∧ W (i + 1) (acc ++ [y]) (up M4 p (.lst (acc ++ [y])))) (W (i + 1) acc M3)) ∧ (i = ds.length → fin acc M)
/-- .. kept as it is, no longer written -/
def wLc (wi : WI) (g : WG) (tt : WT) (te : WE) (vs : List Nat) : WE := fun ρ M E Q => wi ρ M E fun ds chk M1 => ∀ p, M1 p = none →
  LcOk p chk g tt te (wipeR ρ vs) (fun acc M2 => ∃ M3, Le M3 M2 ∧ M3 p = none ∧ Q (.lst acc) M3) ds (up M1 p (.lst []))
/-- .. to be written -/
def wLcC (wi : WI) (g : WG) (tt : WT) (te : WE) (vs : List Nat) : WE := fun ρ M E Q => wi ρ M E fun ds chk M1 => ∀ p, M1 p = none →
  LcOk p chk g tt te (wipeR ρ vs) (fun acc M2 => Q (.ref p) M2) ds (up M1 p (.lst []))
abbrev EF : XK := fun _ _ _ => False
section
variable {K : PySem.W.Frag} {Ew : XK} {F H : Hp} {σ : L2.St} {ρ : Rho} {M M' : Cells} {p : Addr}
theorem eok_false : EOk K Ew F fun _ _ => False := fun _ _ _ _ _ _ h => h.elim
/-- a cell is let go: it is plain data from now on -/
theorem Sta.freeze (S : Sta K F H σ ρ M) {vs : List V} (hp : F p = none) (h1 : H p = some (.lst vs)) (l : Le M' M) (hn : M' p = none) : Sta K (upd F p (.lst vs)) H σ ρ M' := by
  have e := Same.new (o := .lst vs) hp
  refine ⟨⟨fun b u z => ?_, fun q c z => ?_⟩, S.sl.mono e⟩
  · by_cases hb : b = p
    · subst hb; rw [upd_same] at z; cases z; exact h1
    · rw [upd_ne hb] at z; exact S.sub b u z
  · obtain ⟨z1, z2⟩ := S.cell q c (l q c z)
    have ne : q ≠ p := fun w => by rw [w, hn] at z; cases z
    exact ⟨by rw [upd_ne ne]; exact z1, z2.keep e fun o' e' => e'⟩
/-- the loop of a comprehension, below -/
theorem lc_low {wi : TI} {ww : WI} {g : TG} {gw : WG} {wr : List Nat} {tt : TT} {tw : WT} {te : TE} {ew : WE} {vs : List Nat} {fin : Addr → List D → Cells → Prop} (li : LI K Ew wi ww) (lg : LG K EF g gw wr) (lt : LT K EF tt tw) (le : LE K EF te ew) (hwr : ∀ i ∈ wr, i ∈ vs)
    {Ed : EK} (S : Sta K F H σ ρ M) (E : EOk K Ew F Ed) (h : ww ρ M Ed fun ds chk M1 => ∀ p, M1 p = none → LcOk p chk gw tw ew (wipeR ρ vs) (fin p) ds (up M1 p (.lst []))) {Q : VK}
    (q : ∀ p H' F' acc vs' M', Same F F' → Sta K F' H' σ ρ M' → M' p = some (.lst acc) → F' p = none → H' p = some (.lst vs') → Reps K F' acc vs' → fin p acc M' → Q (.ref p) H') : tLc wi g tt te vs σ H Q := by
  refine li σ H F ρ M Ed _ S E h _ fun J H1 F1 ds chk M1 e1 S1 it h1 => ?_
  intro p hp
  have h2 := h1 p (S1.mn hp)
  have S2 : Sta K F1 (upd H1 p (.lst [])) σ ρ (up M1 p (.lst [])) := S1.newC hp (c := .lst []) ⟨[], upd_same, rfl⟩
  obtain ⟨W, w0, hw⟩ := h2.ex
  refine ⟨fun i m H' => m = ds.length - i ∧ i ≤ ds.length ∧ ∃ F' M' acc, Same F1 F' ∧ Sta K F' H' σ ρ M' ∧ W i acc M', ⟨ds.length, rfl, Nat.zero_le _, F1, _, [], Same.refl F1, S2, w0⟩, ?_⟩
  rintro i m H3 ⟨rfl, hi, F3, M3, acc, e3, S3, h3⟩
  obtain ⟨hk, hm, h4, h5⟩ := hw i acc M3 hi h3
  by_cases hl : i < ds.length
  · have hd : ds[i]? = some ds[i] := List.getElem?_eq_getElem hl
    obtain ⟨hz, h3⟩ := h4 _ hd
    refine .inr ⟨it.go F3 H3 M3 i e3 S3.toStaC hk hl, fun H' => i + 1 ≤ ds.length ∧ ∃ F' M' acc, Same F1 F' ∧ Sta K F' H' σ ρ M' ∧ W (i + 1) acc M', fun H' z => ⟨ds.length - (i + 1), by omega, rfl, z⟩, fun x H' hy => ?_⟩
    obtain ⟨F4, dd, e4, S4, hdd, r4⟩ := it.yld F3 H3 σ ρ M3 i x H' e3 S3 hk hy hl
    rw [hd] at hdd; cases hdd
    have S4' : Sta K F4 H' (wipe σ vs) (wipeR ρ vs) M3 := ⟨S4.toStaC, S4.sl.wipe vs⟩
    refine lg (wipe σ vs) H' F4 (wipeR ρ vs) M3 (fun _ _ => False) x _ _ S4' eok_false r4 h3 _ fun σ5 H5 F5 ρ5 M5 e5 S5 w5 h5 => ⟨(w5 vs hwr).trans wipe_wipe, ?_⟩
    refine lt σ5 H5 F5 ρ5 M5 (fun _ _ => False) _ S5 eok_false h5 _ fun b H6 F6 M6 e6 S6 h6 => ?_
    have e36 := ((e3.trans e4).trans e5).trans e6
    cases b with
    | true =>
      show te σ5 H6 _
      refine le σ5 H6 F6 ρ5 M6 (fun _ _ => False) _ S6 eok_false h6 _ fun y H7 F7 dy M7 e7 S7 r7 h7 => ?_
      obtain ⟨_, vs7, hv, hr⟩ := S7.cell p _ h7.1
      have S7' : Sta K F7 H7 σ ρ M7 := ⟨S7.toStaC, S.sl.mono ((e1.trans e36).trans e7)⟩
      exact ⟨vs7, hv, by rw [← hr.len]; exact hz, hl, F7, _, acc ++ [dy], e36.trans e7, S7'.setC h7.1 (c := .lst (acc ++ [dy])) ⟨_, upd_same, hr.append (Reps.cons r7 Reps.nil)⟩, h7.2⟩
    | false => exact ⟨hl, F6, M6, acc, e36, ⟨S6.toStaC, S.sl.mono (e1.trans e36)⟩, h6⟩
  · obtain ⟨_, vs3, hv, hr⟩ := S3.cell p _ hm
    exact .inl ⟨it.stop F3 H3 M3 i e3 S3.toStaC hk (Nat.le_of_not_lt hl), q p H3 F3 acc vs3 M3 (e1.trans e3) S3 hm (S3.cell p _ hm).1 hv hr (h5 (by omega))⟩
end
section
variable {X : Cx} {Ew : XK} {elt tg iter : Expr} {ifs : List Expr} {scope : Scope} {own : List (Str × Nat)} {pos : Pos} {ww : WI} {gw : WG} {wr : List Nat} {tw : WT} {ew : WE}
def DTs (X : Cx) (Ew : XK) (ifs : List Expr) (w : WT) : Prop := ∃ t, PTs X ifs t ∧ LT X.K Ew t w
def wYes : WT := fun _ M _ Q => Q true M
theorem dts_nil : DTs X Ew [] wYes := ⟨_, pts_nil, fun σ H F ρ M Ed Qd S E h Q q => q true H F M (Same.refl F) S h⟩
theorem dts_one {c : Expr} {w : WT} (h : DT X Ew c w) : DTs X Ew [c] w := let ⟨_, p, l⟩ := h; ⟨_, pts_one p, l⟩
def liftE (K : PySem.W.Frag) (Ew : XK) (w : WE) : TE := fun σ H Q => ∃ F ρ M Ed Qd, Sta K F H σ ρ M ∧ EOk K Ew F Ed ∧ w ρ M Ed Qd ∧ QOk K F σ ρ Qd Q
def liftT (K : PySem.W.Frag) (Ew : XK) (w : WT) : TT := fun σ H Q => ∃ F ρ M Ed Qd, Sta K F H σ ρ M ∧ EOk K Ew F Ed ∧ w ρ M Ed Qd ∧ (∀ b H' F' M', Same F F' → Sta K F' H' σ ρ M' → Qd b M' → Q b H')
def liftG (K : PySem.W.Frag) (Ew : XK) (w : WG) (wr : List Nat) : TG := fun v σ H R => ∃ F ρ M Ed d Rd, Sta K F H σ ρ M ∧ EOk K Ew F Ed ∧ Rep K F d v ∧ w d ρ M Ed Rd ∧ (∀ σ' H' F' ρ' M', Same F F' → Sta K F' H' σ' ρ' M' → Wip wr σ σ' → Rd ρ' M' → R σ' H')
theorem DE.up {X : Cx} {Ew : XK} {e : Expr} {w : WE} (h : DE X Ew e w) : PE X e (liftE X.K Ew w) :=
  let ⟨_, p, l⟩ := h; ⟨fun pins s σ H Q I ⟨F, ρ, M, Ed, Qd, S, E, w0, q⟩ => p.run pins s σ H Q I (l σ H F ρ M Ed Qd S E w0 Q q)⟩
theorem DTs.up {X : Cx} {Ew : XK} {e : List Expr} {w : WT} (h : DTs X Ew e w) : PTs X e (liftT X.K Ew w) :=
  let ⟨_, p, l⟩ := h; ⟨fun pins s σ H Q I ⟨F, ρ, M, Ed, Qd, S, E, w0, q⟩ => p.run pins s σ H Q I (l σ H F ρ M Ed Qd S E w0 Q q)⟩
theorem DG.up {X : Cx} {Ew : XK} {e : Expr} {w : WG} {wr : List Nat} (h : DG X Ew e w wr) : PG X e (liftG X.K Ew w wr) :=
  let ⟨_, p, l⟩ := h; ⟨fun pins s σ H v u Q I r ⟨F, ρ, M, Ed, d, Rd, S, E, rr, w0, q⟩ => p.run pins s σ H v u Q I r (l σ H F ρ M Ed v d Rd S E rr w0 Q q)⟩
theorem le_lift {K : PySem.W.Frag} {Ew : XK} {w : WE} : LE K Ew (liftE K Ew w) w := fun _ _ F ρ M Ed Qd S E h _ q => ⟨F, ρ, M, Ed, Qd, S, E, h, q⟩
theorem lt_lift {K : PySem.W.Frag} {Ew : XK} {w : WT} : LT K Ew (liftT K Ew w) w := fun _ _ F ρ M Ed Qd S E h _ q => ⟨F, ρ, M, Ed, Qd, S, E, h, q⟩
theorem lg_lift {K : PySem.W.Frag} {Ew : XK} {w : WG} {wr : List Nat} : LG K Ew (liftG K Ew w wr) w wr := fun _ _ F ρ M Ed _ d Rd S E r h _ q => ⟨F, ρ, M, Ed, d, Rd, S, E, r, h, q⟩
theorem le_lc {K : PySem.W.Frag} {wi : TI} {g : TG} {tt : TT} {te : TE} {vs : List Nat} (li : LI K Ew wi ww) (lg : LG K EF g gw wr) (lt : LT K EF tt tw) (le : LE K EF te ew) (hwr : ∀ i ∈ wr, i ∈ vs) : LE K Ew (tLc wi g tt te vs) (wLc ww gw tw ew vs) := fun σ H F ρ M Ed Qd S E h Q q =>
  lc_low li lg lt le hwr S E h fun p H' F' acc vs' M' e1 S1 hm hf hv hr ⟨M3, l3, hn, h3⟩ =>
    q (.ref p) H' (upd F' p (.lst vs')) (.lst acc) M3 (e1.trans (Same.new hf)) (S1.freeze hf hv l3 hn) ⟨p, vs', rfl, upd_same, hr.mono (Same.new hf)⟩ h3
theorem le_lcC {K : PySem.W.Frag} {wi : TI} {g : TG} {tt : TT} {te : TE} {vs : List Nat} (li : LI K Ew wi ww) (lg : LG K EF g gw wr) (lt : LT K EF tt tw) (le : LE K EF te ew) (hwr : ∀ i ∈ wr, i ∈ vs) : LE K Ew (tLc wi g tt te vs) (wLcC ww gw tw ew vs) := fun σ H F ρ M Ed Qd S E h Q q =>
  lc_low (fin := fun p acc M2 => Qd (.ref p) M2) li lg lt le hwr S E h fun p H' F' acc vs' M' e1 S1 hm hf hv hr h3 => q (.ref p) H' F' (.ref p) M' e1 S1 rfl h3
theorem de_lc (hc : X.calm = true) (hN : X.N.Nodup) (hi : DI X Ew tg iter ww) (ok : BlkOk X.N X.env.scope scope own)
    (hg : ∀ (s : Shared) (H : Hp) (C : Addr) (cl : List (Str × Addr)) (fp : List Addr), DG (X.blk s H scope (compEnvC scope cl C X.env) fp) EF tg gw wr) (ht : ∀ (s : Shared) (H : Hp) (C : Addr) (cl : List (Str × Addr)) (fp : List Addr), DTs (X.blk s H scope (compEnvC scope cl C X.env) fp) EF ifs tw)
    (he : ∀ (s : Shared) (H : Hp) (C : Addr) (cl : List (Str × Addr)) (fp : List Addr), DE (X.blk s H scope (compEnvC scope cl C X.env) fp) EF elt ew) (hwr : ∀ i ∈ wr, i ∈ own.map (·.2) := by decide) (hs : ∀ x, foldedSetIterable iter X.env x = pure x := by intro _; rfl) :
    DE X Ew (.ListComp elt [⟨tg, iter, ifs, 0⟩] scope pos) (wLc ww gw tw ew (own.map (·.2))) :=
  let ⟨_, pi, li⟩ := hi; ⟨_, pe_lc hc hN pi ok (fun s H C cl fp => (hg s H C cl fp).up) (fun s H C cl fp => (ht s H C cl fp).up) (fun s H C cl fp => (he s H C cl fp).up) hs, le_lc li lg_lift lt_lift le_lift hwr⟩
theorem de_lcC (hc : X.calm = true) (hN : X.N.Nodup) (hi : DI X Ew tg iter ww) (ok : BlkOk X.N X.env.scope scope own)
    (hg : ∀ (s : Shared) (H : Hp) (C : Addr) (cl : List (Str × Addr)) (fp : List Addr), DG (X.blk s H scope (compEnvC scope cl C X.env) fp) EF tg gw wr) (ht : ∀ (s : Shared) (H : Hp) (C : Addr) (cl : List (Str × Addr)) (fp : List Addr), DTs (X.blk s H scope (compEnvC scope cl C X.env) fp) EF ifs tw)
    (he : ∀ (s : Shared) (H : Hp) (C : Addr) (cl : List (Str × Addr)) (fp : List Addr), DE (X.blk s H scope (compEnvC scope cl C X.env) fp) EF elt ew) (hwr : ∀ i ∈ wr, i ∈ own.map (·.2) := by decide) (hs : ∀ x, foldedSetIterable iter X.env x = pure x := by intro _; rfl) :
    DE X Ew (.ListComp elt [⟨tg, iter, ifs, 0⟩] scope pos) (wLcC ww gw tw ew (own.map (·.2))) :=
  let ⟨_, pi, li⟩ := hi; ⟨_, pe_lc hc hN pi ok (fun s H C cl fp => (hg s H C cl fp).up) (fun s H C cl fp => (ht s H C cl fp).up) (fun s H C cl fp => (he s H C cl fp).up) hs, le_lcC li lg_lift lt_lift le_lift hwr⟩
/-- y = [..] -/
theorem ds_setLc {i : Nat} {y : Str} {py spos : Pos} (hc : X.calm = true) (hN : X.N.Nodup) (hy : X.N[i]? = some y) (hyl : X.env.scope.names.lookup y = some .local)
    (hsw : swapsWith (.ListComp elt [⟨tg, iter, ifs, 0⟩] scope pos) (some (.Name y py)) spos.line X.env = pure true) (hi : DI X Ew tg iter ww) (ok : BlkOk X.N X.env.scope scope own)
    (hg : ∀ (s : Shared) (H : Hp) (C : Addr) (cl : List (Str × Addr)) (fp : List Addr), DG (X.blk s H scope (compEnvC scope cl C X.env) fp) EF tg gw wr) (ht : ∀ (s : Shared) (H : Hp) (C : Addr) (cl : List (Str × Addr)) (fp : List Addr), DTs (X.blk s H scope (compEnvC scope cl C X.env) fp) EF ifs tw)
    (he : ∀ (s : Shared) (H : Hp) (C : Addr) (cl : List (Str × Addr)) (fp : List Addr), DE (X.blk s H scope (compEnvC scope cl C X.env) fp) EF elt ew) (hwr : ∀ i ∈ wr, i ∈ own.map (·.2) := by decide) (hs : ∀ x, foldedSetIterable iter X.env x = pure x := by intro _; rfl) :
    DS X Ew (.Assign [.Name y py] (.ListComp elt [⟨tg, iter, ifs, 0⟩] scope pos) spos) (sAsg (wLc ww gw tw ew (own.map (·.2))) (gwName i)) :=
  let ⟨_, pi, li⟩ := hi; ⟨_, ps_setLc hc hN hy hyl hsw pi ok (fun s H C cl fp => (hg s H C cl fp).up) (fun s H C cl fp => (ht s H C cl fp).up) (fun s H C cl fp => (he s H C cl fp).up) hs, fun σ H F ρ M Ed Dd S E h D0 d =>
    le_lc li lg_lift lt_lift le_lift hwr σ H F ρ M Ed _ S E h _ fun v H1 F1 dd M1 e1 S1 r1 h1 => d.nx _ _ F1 _ M1 e1 (S1.put i r1) h1⟩
theorem ds_setLcC {i : Nat} {y : Str} {py spos : Pos} (hc : X.calm = true) (hN : X.N.Nodup) (hy : X.N[i]? = some y) (hyl : X.env.scope.names.lookup y = some .local)
    (hsw : swapsWith (.ListComp elt [⟨tg, iter, ifs, 0⟩] scope pos) (some (.Name y py)) spos.line X.env = pure true) (hi : DI X Ew tg iter ww) (ok : BlkOk X.N X.env.scope scope own)
    (hg : ∀ (s : Shared) (H : Hp) (C : Addr) (cl : List (Str × Addr)) (fp : List Addr), DG (X.blk s H scope (compEnvC scope cl C X.env) fp) EF tg gw wr) (ht : ∀ (s : Shared) (H : Hp) (C : Addr) (cl : List (Str × Addr)) (fp : List Addr), DTs (X.blk s H scope (compEnvC scope cl C X.env) fp) EF ifs tw)
    (he : ∀ (s : Shared) (H : Hp) (C : Addr) (cl : List (Str × Addr)) (fp : List Addr), DE (X.blk s H scope (compEnvC scope cl C X.env) fp) EF elt ew) (hwr : ∀ i ∈ wr, i ∈ own.map (·.2) := by decide) (hs : ∀ x, foldedSetIterable iter X.env x = pure x := by intro _; rfl) :
    DS X Ew (.Assign [.Name y py] (.ListComp elt [⟨tg, iter, ifs, 0⟩] scope pos) spos) (sAsg (wLcC ww gw tw ew (own.map (·.2))) (gwName i)) :=
  let ⟨_, pi, li⟩ := hi; ⟨_, ps_setLc hc hN hy hyl hsw pi ok (fun s H C cl fp => (hg s H C cl fp).up) (fun s H C cl fp => (ht s H C cl fp).up) (fun s H C cl fp => (he s H C cl fp).up) hs, fun σ H F ρ M Ed Dd S E h D0 d =>
    le_lcC li lg_lift lt_lift le_lift hwr σ H F ρ M Ed _ S E h _ fun v H1 F1 dd M1 e1 S1 r1 h1 => d.nx _ _ F1 _ M1 e1 (S1.put i r1) h1⟩
end
end DL

set_option Elab.async false
set_option linter.all false
set_option maxRecDepth 100000
set_option maxHeartbeats 4000000
namespace DL
open PySem PySem.Spec PyProof.Rows L2

/-! ### items, slices -/
def fIx (x i : D) (M : Cells) (Q : DK) : Prop := onI i fun k => match x with
  | .str z => z.length ≤ sizeLine ∧ onO (atI z.cps.toList k) fun c => Q (.str ⟨#[c]⟩) M
  | x => onO (asQ M x) fun ds => onO (atI ds k) fun d => Q d M
/-- the cut of a list, by where it begins and ends -/
def cutD {α : Type} (xs : List α) (lo hi : Option Int) : List α := (xs.drop (HT.sIx xs.length 0 lo)).take (HT.sIx xs.length xs.length hi - HT.sIx xs.length 0 lo)
def onPart (d : Option D) (f : Option Int → Prop) : Prop := match d with
  | none => f none
  | some (.int i) => f (some i)
  | _ => False
abbrev WO := Rho → Cells → EK → (Option Int → Cells → Prop) → Prop
def wNoPart : WO := fun _ M _ Q => Q none M
def wPart (w : WE) : WO := fun ρ M E Q => w ρ M E fun d M1 => onI d fun i => Q (some i) M1
def LO (K : PySem.W.Frag) (Ew : XK) (t : TO) (w : WO) : Prop :=
  ∀ (σ : L2.St) (H F : Hp) (ρ : Rho) (M : Cells) (Ed : EK) (Qd : Option Int → Cells → Prop), Sta K F H σ ρ M → EOk K Ew F Ed → w ρ M Ed Qd → ∀ Q : Option Int → Hp → Prop, (∀ b H' F' M', Same F F' → Sta K F' H' σ ρ M' → Qd b M' → Q b H') → t σ H Q
def DO (X : Cx) (Ew : XK) (e : Option Expr) (w : WO) : Prop := ∃ t, PO X e t ∧ LO X.K Ew t w
def fSl (x : D) (lo hi : Option Int) (M : Cells) (Q : DK) : Prop := match x with
  | .tup ds => Q (.tup (cutD ds lo hi)) M
  | .str z => z.length ≤ sizeLine ∧ Q (.str (cutS z lo hi)) M
  | .ro ds => Q (.lst (cutD ds lo hi)) M
  | x => onO (asL M x) fun ds => Q (.lst (cutD ds lo hi)) M
def wSl (we : WE) (wl wh : WO) : WE := fun ρ M E Q => we ρ M E fun x M1 => wl ρ M1 E fun lo M2 => wh ρ M2 E fun hi M3 => fSl x lo hi M3 Q
section
variable {K : PySem.W.Frag} {F H : Hp}
theorem atI_map {ds : List D} {vs : List V} {k : Int} {d : D} (r : Reps K F ds vs) (h : atI ds k = some d) : ∃ v, atI vs k = some v ∧ Rep K F d v := by
  unfold atI at h ⊢
  rw [← r.len]
  cases e : ixN ds.length k with
  | none => rw [e] at h; cases h
  | some j =>
    rw [e] at h
    exact r.get h
theorem reps_cut {ds : List D} {vs : List V} (r : Reps K F ds vs) (lo hi : Option Int) : Reps K F (cutD ds lo hi) (cutV vs lo hi) := by
  unfold cutD cutV
  rw [← r.len]
  exact (r.drop _).take _
theorem cut_whole {ds : List D} {lo hi : Option Int} (h : HT.sIx ds.length 0 lo = 0 ∧ HT.sIx ds.length ds.length hi = ds.length) : cutD ds lo hi = ds := by
  unfold cutD
  rw [h.1, h.2]
  simp
def rSlAll (K : PySem.W.Frag) : V → Option Int → Option Int → Hp → VK → Prop := fun x lo hi H Q => rSlL K x lo hi H Q ∨ rSlA K x lo hi H Q ∨ rSlS x lo hi H Q
end
section
variable {X : Cx} {K : PySem.W.Frag} {Ew : XK} {a b e : Expr} {pos : Pos} {wa wb we : WE}
theorem lr_ix : LR K (rIx K) fIx := fun σ H F ρ M Qd x y dx dy S rx ry h Q q => by
  obtain ⟨k, rfl, h⟩ := onI_ok h
  cases (show y = V.int k from ry)
  have seq : onO (asQ M dx) (fun ds => onO (atI ds k) fun d => Qd d M) → rIx K x (.int k) H Q := fun ⟨ds, e1, d, e2, h2⟩ => by
    obtain ⟨p, vs, rfl, hs, r⟩ := asQ_ok S.toStaC rx e1
    obtain ⟨v, hv, rv⟩ := atI_map r e2
    rcases hs with hs | hs
    · exact .inl ⟨p, vs, k, v, rfl, rfl, hs, hv, q.here S h2 rv⟩
    · exact .inr (.inl ⟨p, vs, k, v, rfl, rfl, hs, hv, q.here S h2 rv⟩)
  cases dx with
  | str z =>
    cases (show x = _ from rx)
    obtain ⟨hz, c, hc, h2⟩ := h
    exact .inr (.inr ⟨z, k, c, rfl, rfl, hz, hc, q.here S h2 rfl⟩)
  | _ => exact seq h
theorem d_ix (ha : DE X Ew a wa) (hb : DE X Ew b wb) (hs : PlainIx b := by exact fun _ _ => rfl) : DE X Ew (.Subscript a b pos) (wOp fIx wa wb) :=
  let ⟨_, pa, la⟩ := ha; let ⟨_, pb, lb⟩ := hb; ⟨_, pe_ix ix_seq pa pb hs, le_op la lb lr_ix⟩
theorem do_none : DO X Ew none wNoPart := ⟨_, po_none, fun σ H F ρ M Ed Qd S E h Q q => q none H F M (Same.refl F) S h⟩
theorem do_some (h : DE X Ew e we) : DO X Ew (some e) (wPart we) := let ⟨_, p, l⟩ := h; ⟨_, po_some p, fun σ H F ρ M Ed Qd S E h Q q => l σ H F ρ M Ed _ S E h _ fun v H1 F1 d M1 e1 S1 r1 h1 => by
  obtain ⟨i, rfl, h1⟩ := onI_ok h1
  exact ⟨i, r1, q _ _ _ _ e1 S1 h1⟩⟩
theorem d_slice {lo hi : Option Expr} {wl wh : WO} {p2 : Pos} (he : DE X Ew e we) (hl : DO X Ew lo wl) (hu : DO X Ew hi wh) : DE X Ew (.Subscript e (.Slice lo hi none p2) pos) (wSl we wl wh) :=
  let ⟨_, pe, le⟩ := he; let ⟨_, pl, ll⟩ := hl; let ⟨_, ph, lh⟩ := hu; ⟨_, pe_slice (sl_list.or (sl_tupA.or sl_str)) pe pl ph, fun σ H F ρ M Ed Qd S E h Q q =>
    le σ H F ρ M Ed _ S E h _ fun v H1 F1 d M1 e1 S1 r1 h1 => ll σ H1 F1 ρ M1 Ed _ S1 (E.mono e1) h1 _ fun lo H2 F2 M2 e2 S2 h2 => lh σ H2 F2 ρ M2 Ed _ S2 (E.mono (e1.trans e2)) h2 _ fun hi H3 F3 M3 e3 S3 h3 => by
      have r3 := (r1.mono e2).mono e3
      have q3 := q.mono ((e1.trans e2).trans e3)
      have lst : onO (asL M3 d) (fun ds => Qd (.lst (cutD ds lo hi)) M3) → rSlAll X.K v lo hi H3 Q := fun ⟨ds, g1, g2⟩ => by
        obtain ⟨p, vs, rfl, hs, r⟩ := asL_ok S3.toStaC r3 g1
        exact .inl ⟨p, vs, rfl, SqL.of hs, fun z hz => q3.frz S3 hz (d := .lst _) ⟨z, _, rfl, upd_same, (reps_cut r lo hi).mono (Same.new (S3.fn hz))⟩ g2⟩
      cases d with
      | tup ds =>
        obtain ⟨p, vs, rfl, hs, r⟩ := r3
        refine .inr (.inl ⟨p, vs, rfl, sameT S3.sub hs, fun hw => ?_, fun hw z hz => ?_⟩)
        · rw [← r.len] at hw
          have h3' : Qd (.tup (cutD ds lo hi)) M3 := h3
          rw [cut_whole hw] at h3'
          exact q3.here S3 h3' ⟨p, vs, rfl, hs, r⟩
        · exact q3.frz S3 hz (d := .tup _) ⟨z, _, rfl, SqT.of upd_same, (reps_cut r lo hi).mono (Same.new (S3.fn hz))⟩ h3
      | str z =>
        cases (show v = _ from r3)
        exact .inr (.inr ⟨z, rfl, h3.1, q3.here S3 h3.2 rfl⟩)
      | ro ds =>
        obtain ⟨p, vs, rfl, hs, r⟩ := r3
        exact .inl ⟨p, vs, rfl, S3.sub.seq hs, fun z hz => q3.frz S3 hz (d := .lst _) ⟨z, _, rfl, upd_same, (reps_cut r lo hi).mono (Same.new (S3.fn hz))⟩ h3⟩
      | _ => exact lst h3⟩
end

/-! ### built-in functions -/
section
variable {X : Cx} {K : PySem.W.Frag} {Ew : XK} {e : Expr} {es : List Expr} {pos p : Pos} {w : WA} {x : Str} {id T : String} {r : List V → Hp → VK → Prop} {f : List D → Cells → DK → Prop}
theorem d_callB (hc : CallR X (.builtin id) r) (hl : LC X.K r f) (hm : X.mg x = none) (ha : DA X Ew (e :: es) w) (hg : Gl X x := by rfl) (hv : bootBuiltins x = some (.builtin id) := by decide +kernel) (hn : x ≠ "__name__" := by decide) (hdb : (x == ("__debug__" : Str)) = false := by decide)
    (he : starEach (e :: es) X.env = (false, eval e X.env) :: starEach es X.env := by rfl) (hpl : (backTo pos (starEach es X.env)).any (·.1) = false := by rfl) : DE X Ew (.Call (.Name x p) (e :: es) [] pos) (wCall f w) :=
  let ⟨_, pa, la⟩ := ha; ⟨_, pe_callB hc hg hm hv pa hn hdb he hpl, le_call la hl⟩
theorem d_callTy (hc : CallR X (.type T) r) (hl : LC X.K r f) (hm : X.mg x = none) (ha : DA X Ew (e :: es) w) (hg : Gl X x := by rfl) (hv : bootBuiltins x = some (.type T) := by decide +kernel) (hn : x ≠ "__name__" := by decide) (hdb : (x == ("__debug__" : Str)) = false := by decide)
    (he : starEach (e :: es) X.env = (false, eval e X.env) :: starEach es X.env := by rfl) (hpl : (backTo pos (starEach es X.env)).any (·.1) = false := by rfl) : DE X Ew (.Call (.Name x p) (e :: es) [] pos) (wCall f w) :=
  let ⟨_, pa, la⟩ := ha; ⟨_, pe_callTy hc hg hm hv pa hn hdb he hpl, le_call la hl⟩
/-- a rule of one argument -/
theorem lc_1 {r : List V → Hp → VK → Prop} {f : D → Cells → DK → Prop} (h : LU K (fun v H Q => r [v] H Q) f) : LC K r (fun ds M Q => on1 ds fun d => f d M Q) := fun σ H F ρ M Qd xs ds S rr hf Q q => by
  obtain ⟨d, rfl, hf⟩ := on1_ok hf
  obtain ⟨v, rfl, rv⟩ := reps1 rr
  exact h σ H F ρ M Qd v d S rv hf Q q
theorem lc_2 {r : List V → Hp → VK → Prop} {f : D → D → Cells → DK → Prop} (h : LR K (fun v u H Q => r [v, u] H Q) f) : LC K r (fun ds M Q => on2 ds fun d e => f d e M Q) := fun σ H F ρ M Qd xs ds S rr hf Q q => by
  obtain ⟨d, e, rfl, hf⟩ := on2_ok hf
  obtain ⟨v, u, rfl, rv, ru⟩ := reps2 rr
  exact h σ H F ρ M Qd v u d e S rv ru hf Q q
def onCh (M : Cells) (d : D) (n : Nat → Prop) : Prop := match d with
  | .str z => z.length ≤ sizeLine ∧ n z.length
  | d => onO (asQ M d) fun ds => n ds.length
def fLen (d : D) (M : Cells) (Q : DK) : Prop := onCh M d fun n => Q (.int (n : Nat)) M
theorem lu_len : LU K (fun v H Q => ∃ x n, [v] = [x] ∧ LenV K x H n ∧ Q (.int n) H) fLen := fun σ H F ρ M Qd x dx S rx h Q q => by
  have seq : onO (asQ M dx) (fun ds => Qd (.int (ds.length : Nat)) M) → ∃ y n, [x] = [y] ∧ LenV K y H n ∧ Q (.int n) H := fun ⟨ds, e1, h2⟩ => by
    obtain ⟨p, vs, rfl, hs, r⟩ := asQ_ok S.toStaC rx e1
    refine ⟨_, ds.length, rfl, ?_, q.here S h2 rfl⟩
    rcases hs with hs | hs
    · exact .inl ⟨vs, hs, r.len⟩
    · exact .inr ⟨vs, hs, r.len⟩
  cases dx with
  | str z =>
    cases (show x = _ from rx)
    exact ⟨_, z.length, rfl, ⟨h.1, rfl⟩, q.here S h.2 rfl⟩
  | _ => exact seq h
def fInt (d : D) (M : Cells) (Q : DK) : Prop := match d with
  | .int i => Q (.int i) M
  | .bl k => Q (.int (if k then 1 else 0)) M
  | _ => False
theorem lu_int : LU K (fun v H Q => (∃ i, [v] = [.int i] ∧ Q (.int i) H) ∨ ∃ k, [v] = [.bl k] ∧ Q (.int (if k then 1 else 0)) H) fInt := fun σ H F ρ M Qd x dx S rx h Q q => by
  cases dx with
  | int i => cases (show x = _ from rx); exact .inl ⟨i, rfl, q.here S h rfl⟩
  | bl k => cases (show x = _ from rx); exact .inr ⟨k, rfl, q.here S h rfl⟩
  | _ => exact h.elim
def fAbs (d : D) (M : Cells) (Q : DK) : Prop := onI d fun i => Q (.int (if i < 0 then -i else i)) M
theorem lu_abs : LU K (fun v H Q => ∃ i, [v] = [.int i] ∧ Q (.int (if i < 0 then -i else i)) H) fAbs := fun σ H F ρ M Qd x dx S rx h Q q => by
  obtain ⟨i, rfl, h⟩ := onI_ok h
  cases (show x = _ from rx)
  exact ⟨i, rfl, q.here S h rfl⟩
def fStr (d : D) (M : Cells) (Q : DK) : Prop := onI d fun i => i.natAbs.log2 < 1920 ∧ Q (.str (toString i)) M
theorem lu_str : LU K (fun v H Q => ∃ i, [v] = [.int i] ∧ i.natAbs.log2 < 1920 ∧ Q (.str (toString i)) H) fStr := fun σ H F ρ M Qd x dx S rx h Q q => by
  obtain ⟨i, rfl, h⟩ := onI_ok h
  cases (show x = _ from rx)
  exact ⟨i, rfl, h.1, q.here S h.2 rfl⟩
def fMax2 (a b : D) (M : Cells) (Q : DK) : Prop := onI a fun i => onI b fun j => Q (.int (if j > i then j else i)) M
def fMin2 (a b : D) (M : Cells) (Q : DK) : Prop := onI a fun i => onI b fun j => Q (.int (if j < i then j else i)) M
theorem lr_max2 : LR K (fun v u H Q => ∃ i j, [v, u] = [.int i, .int j] ∧ Q (.int (if j > i then j else i)) H) fMax2 := fun σ H F ρ M Qd x y dx dy S rx ry h Q q => by
  obtain ⟨i, rfl, h1⟩ := onI_ok h
  obtain ⟨j, rfl, h2⟩ := onI_ok h1
  cases (show x = _ from rx); cases (show y = _ from ry)
  exact ⟨i, j, rfl, q.here S h2 rfl⟩
theorem lr_min2 : LR K (fun v u H Q => ∃ i j, [v, u] = [.int i, .int j] ∧ Q (.int (if j < i then j else i)) H) fMin2 := fun σ H F ρ M Qd x y dx dy S rx ry h Q q => by
  obtain ⟨i, rfl, h1⟩ := onI_ok h
  obtain ⟨j, rfl, h2⟩ := onI_ok h1
  cases (show x = _ from rx); cases (show y = _ from ry)
  exact ⟨i, j, rfl, q.here S h2 rfl⟩
/-- list(xs), of a list or a tuple: plain, or to be written -/
def fList (d : D) (M : Cells) (Q : DK) : Prop := onO (asQ M d) fun ds => Q (.lst ds) M
def fListC (d : D) (M : Cells) (Q : DK) : Prop := onO (asQ M d) fun ds => ∀ p, M p = none → Q (.ref p) (up M p (.lst ds))
def fTuple (d : D) (M : Cells) (Q : DK) : Prop := onO (asQ M d) fun ds => Q (.tup ds) M
def rListOf (K : PySem.W.Frag) : List V → Hp → VK → Prop := fun xs H Q => ∃ p ys, xs = [.ref p] ∧ (SqL K H p ys ∨ SqT K H p ys) ∧ ∀ l, H l = none → Q (.ref l) (upd H l (.lst ys))
def rTupleOf (K : PySem.W.Frag) : List V → Hp → VK → Prop := fun xs H Q => ∃ p ys, xs = [.ref p] ∧ ((SqL K H p ys ∧ ∀ l, H l = none → Q (.ref l) (upd H l (.tup ys))) ∨ (SqT K H p ys ∧ Q (.ref p) H))
theorem lu_list : LU K (fun v H Q => rListOf K [v] H Q) fList := fun σ H F ρ M Qd x dx S rx h Q q => by
  obtain ⟨ds, e1, h⟩ := h
  obtain ⟨p, vs, rfl, hs, r⟩ := asQ_ok S.toStaC rx e1
  exact ⟨p, vs, rfl, hs, fun l hl => q.frz S hl (d := .lst ds) ⟨l, vs, rfl, upd_same, r.mono (Same.new (S.fn hl))⟩ h⟩
theorem lu_listC : LU K (fun v H Q => rListOf K [v] H Q) fListC := fun σ H F ρ M Qd x dx S rx h Q q => by
  obtain ⟨ds, e1, h⟩ := h
  obtain ⟨p, vs, rfl, hs, r⟩ := asQ_ok S.toStaC rx e1
  exact ⟨p, vs, rfl, hs, fun l hl => q _ _ F (.ref l) _ (Same.refl F) (S.newC hl (c := .lst ds) ⟨vs, upd_same, r⟩) rfl (h l (S.mn hl))⟩
theorem lu_tuple : LU K (fun v H Q => rTupleOf K [v] H Q) fTuple := fun σ H F ρ M Qd x dx S rx h Q q => by
  obtain ⟨ds, e1, h⟩ := h
  cases dx with
  | tup ds =>
    cases e1
    obtain ⟨a, vs, rfl, ha, hr⟩ := rx
    exact ⟨a, vs, rfl, .inr ⟨sameT S.sub ha, q.here S h ⟨a, vs, rfl, ha, hr⟩⟩⟩
  | ro ds =>
    cases e1
    obtain ⟨a, vs, rfl, ha, hr⟩ := rx
    exact ⟨a, vs, rfl, .inl ⟨S.sub.seq ha, fun l hl => q.frz S hl (d := .tup _) ⟨l, vs, rfl, SqT.of upd_same, hr.mono (Same.new (S.fn hl))⟩ h⟩⟩
  | lst ds =>
    cases e1
    obtain ⟨a, vs, rfl, ha, hr⟩ := rx
    exact ⟨a, vs, rfl, .inl ⟨SqL.of (S.sub _ _ ha), fun l hl => q.frz S hl (d := .tup _) ⟨l, vs, rfl, SqT.of upd_same, hr.mono (Same.new (S.fn hl))⟩ h⟩⟩
  | ref p =>
    obtain ⟨a, vs, rfl, ha, hr⟩ := asL_ok S.toStaC rx (show asL M (.ref p) = some ds from e1)
    exact ⟨a, vs, rfl, .inl ⟨SqL.of ha, fun l hl => q.frz S hl (d := .tup _) ⟨l, vs, rfl, SqT.of upd_same, hr.mono (Same.new (S.fn hl))⟩ h⟩⟩
  | _ => cases e1
/-- all(xs), any(xs) of a list of flags; sum of a list of ints -/
def fAll (d : D) (M : Cells) (Q : DK) : Prop := onO (asL M d) fun ds => ∃ bs : List Bool, ds = bs.map D.bl ∧ Q (.bl (bs.all _root_.id)) M
def fAny (d : D) (M : Cells) (Q : DK) : Prop := onO (asL M d) fun ds => ∃ bs : List Bool, ds = bs.map D.bl ∧ Q (.bl (bs.any _root_.id)) M
theorem lu_all : LU K (fun v H Q => rAll K [v] H Q) fAll := fun σ H F ρ M Qd x dx S rx h Q q => by
  obtain ⟨ds, e1, bs, rfl, h⟩ := h
  obtain ⟨p, vs, rfl, hs, r⟩ := asL_ok S.toStaC rx e1
  exact ⟨p, bs, rfl, SqL.of (by rw [← r.bls]; exact hs), q.here S h rfl⟩
theorem lu_any : LU K (fun v H Q => rAny K [v] H Q) fAny := fun σ H F ρ M Qd x dx S rx h Q q => by
  obtain ⟨ds, e1, bs, rfl, h⟩ := h
  obtain ⟨p, vs, rfl, hs, r⟩ := asL_ok S.toStaC rx e1
  exact ⟨p, bs, rfl, SqL.of (by rw [← r.bls]; exact hs), q.here S h rfl⟩
def fMinL (d : D) (M : Cells) (Q : DK) : Prop := onO (asL M d) fun ds => ∃ ns : List Int, ds = ns.map D.int ∧ 0 < ns.length ∧ ∀ m, m ∈ ns → (∀ y, y ∈ ns → m ≤ y) → Q (.int m) M
def fMaxL (d : D) (M : Cells) (Q : DK) : Prop := onO (asL M d) fun ds => ∃ ns : List Int, ds = ns.map D.int ∧ 0 < ns.length ∧ ∀ m, m ∈ ns → (∀ y, y ∈ ns → y ≤ m) → Q (.int m) M
theorem lu_minL : LU K (fun v H Q => rMin K [v] H Q) fMinL := fun σ H F ρ M Qd x dx S rx h Q q => by
  obtain ⟨ds, e1, ns, rfl, hn, h⟩ := h
  obtain ⟨p, vs, rfl, hs, r⟩ := asL_ok S.toStaC rx e1
  exact ⟨p, ns, rfl, SqL.of (by rw [← r.ints]; exact hs), hn, fun m h1 h2 => q.here S (h m h1 h2) rfl⟩
theorem lu_maxL : LU K (fun v H Q => rMax K [v] H Q) fMaxL := fun σ H F ρ M Qd x dx S rx h Q q => by
  obtain ⟨ds, e1, ns, rfl, hn, h⟩ := h
  obtain ⟨p, vs, rfl, hs, r⟩ := asL_ok S.toStaC rx e1
  exact ⟨p, ns, rfl, SqL.of (by rw [← r.ints]; exact hs), hn, fun m h1 h2 => q.here S (h m h1 h2) rfl⟩
/-- sum of a list, a tuple of ints -/
def fSum (d : D) (M : Cells) (Q : DK) : Prop := onO (asQ M d) fun ds => ∃ ns : List Int, ds = ns.map D.int ∧ Q (.int ns.sum) M
def rSumA (K : PySem.W.Frag) : List V → Hp → VK → Prop := fun vs H Q => ∃ (a : Addr) (ns : List Int), vs = [V.ref a] ∧ (SqL K H a (ns.map V.int) ∨ SqT K H a (ns.map V.int)) ∧ Q (.int ns.sum) H
theorem lu_sum : LU K (fun v H Q => rSumA K [v] H Q) fSum := fun σ H F ρ M Qd x dx S rx h Q q => by
  obtain ⟨ds, e1, ns, rfl, h⟩ := h
  obtain ⟨p, vs, rfl, hs, r⟩ := asQ_ok S.toStaC rx e1
  have e := r.ints
  subst e
  exact ⟨p, ns, rfl, hs, q.here S h rfl⟩
end

/-! ### isinstance -/
inductive Kd where
  | non | bl | int | str | tup | lst | dct | oth
def kdD (M : Cells) : D → Kd
  | .non => .non
  | .bl _ => .bl
  | .int _ => .int
  | .str _ => .str
  | .tup _ => .tup
  | .lst _ => .lst
  | .ro _ => .lst
  | .dct _ _ => .dct
  | .ty _ => .oth
  | .ref p => match M p with
    | some (.lst _) => .lst
    | some (.dct _ _) => .dct
    | _ => .oth
def isiK : Kd → TyN → Bool
  | .int, .int => true
  | .bl, .int => true
  | .bl, .bool => true
  | .str, .str => true
  | .tup, .tuple => true
  | .lst, .list => true
  | .dct, .dict => true
  | _, _ => false
def okK : Kd → Bool
  | .oth => false
  | _ => true
def isiD (M : Cells) (d : D) (n : TyN) : Bool := isiK (kdD M d) n
def okIsi (M : Cells) (d : D) : Bool := okK (kdD M d)
def fIsi (x t : D) (M : Cells) (Q : DK) : Prop := match t with
  | .ty n => okIsi M x = true ∧ Q (.bl (isiD M x n)) M
  | _ => False
section
variable {K : PySem.W.Frag} {H : Hp}
def Kd.s : Kd → String
  | .non => "NoneType"
  | .bl => "bool"
  | .int => "int"
  | .str => "str"
  | .tup => "tuple"
  | .lst => "list"
  | .dct => "dict"
  | .oth => "object"
theorem kt_all (k : Kd) (hk : okK k = true) (n : TyN) : PySem.W.kitOne K (.type k.s) (.type n.s) = some (isiK k n) := by
  cases k <;> first | (exact absurd hk (by decide)) | (cases n <;> exact kit_ty (by decide +kernel))
theorem tyx_tup {a : Addr} {vs : List V} (h : SqT K H a vs) : TyX K H (.ref a) (.type "tuple") := by
  rcases h with (h | ⟨o, h⟩) | ⟨o, its, n, h1, h2, _⟩
  · exact .base (.tup h)
  · exact .fTuple h
  · exact .kTuple h1 h2
theorem tyx_lst {a : Addr} {vs : List V} (h : SqL K H a vs) : TyX K H (.ref a) (.type "list") := by
  rcases h with (h | ⟨o, h⟩) | ⟨o, its, n, h1, h2, _⟩
  · exact .base (.lst h)
  · exact .base (.frz h)
  · exact .kList h1 h2
theorem kd_tyx {F : Hp} {M : Cells} (S : StaC K F H M) {d : D} {x : V} (rx : Rep K F d x) (hx : okK (kdD M d) = true) : TyX K H x (.type (kdD M d).s) := by
  cases d with
  | int i => cases (show x = _ from rx); exact .base (.int i)
  | bl i => cases (show x = _ from rx); exact .base (.bl i)
  | str i => cases (show x = _ from rx); exact .base (.str i)
  | non => cases (show x = _ from rx); exact .base .non
  | tup ds => obtain ⟨a, vs, rfl, ha, _⟩ := rx; exact tyx_tup (sameT S.sub ha)
  | lst ds => obtain ⟨a, vs, rfl, ha, _⟩ := rx; exact .base (.lst (S.sub _ _ ha))
  | ro ds => obtain ⟨a, vs, rfl, ha, _⟩ := rx; exact tyx_lst (S.sub.seq ha)
  | dct ks ds => obtain ⟨a, vs, rfl, ha, _⟩ := rx; exact .base (.dK (S.sub _ _ ha))
  | ty _ => cases hx
  | ref p =>
    cases (show x = _ from rx)
    cases e : M p with
    | none => rw [kdD, e] at hx; cases hx
    | some c =>
      have hc := S.cell p c e
      cases c with
      | lst ds =>
        obtain ⟨_, vs, h1, _⟩ := hc
        rw [kdD, e]
        exact .base (.lst h1)
      | dct ks ds =>
        obtain ⟨_, vs, h1, _⟩ := hc
        rw [kdD, e]
        exact .base (.dK h1)
      | _ => exact hc.2.elim
theorem lr_isi : LR K (fun v u H Q => rIsi K [v, u] H Q) fIsi := fun σ H F ρ M Qd x y dx dy S rx ry h Q q => by
  cases dy with
  | ty n =>
    cases (show y = _ from ry)
    obtain ⟨hx, h⟩ := h
    exact ⟨x, .ty n.s, .type (kdD M dx).s, .type n.s, isiK (kdD M dx) n, rfl, .ty n.s, kd_tyx S.toStaC rx hx, kt_all _ hx n, q.here S h rfl⟩
  | _ => exact h.elim
end
end DL

set_option Elab.async false
set_option linter.all false
set_option maxRecDepth 100000
set_option maxHeartbeats 4000000
namespace DL
open PySem PySem.Spec PyProof.Rows L2

/-! ### plain data compared -/
mutual
def toPy : D → PyData
  | .non => .none
  | .bl b => .bool b
  | .int i => .int i
  | .str x => .str x
  | .tup ds => .tuple (toPys ds)
  | .lst ds => .list (toPys ds)
  | .ro ds => .list (toPys ds)
  | .ty _ => .none
  | .ref _ => .none
  | .dct _ _ => .none
def toPys : List D → List PyData
  | [] => []
  | d :: ds => toPy d :: toPys ds
end
/- plain data of no more than so many levels -/
mutual
def Shp : Nat → D → Prop
  | _, .non => True
  | _, .bl _ => True
  | _, .int _ => True
  | _, .str x => PyData.strOk x = true
  | n + 1, .tup ds => Shps n ds
  | n + 1, .lst ds => Shps n ds
  | n + 1, .ro ds => Shps n ds
  | _, _ => False
def Shps : Nat → List D → Prop
  | _, [] => True
  | n, d :: ds => Shp n d ∧ Shps n ds
end
theorem shps_of {n : Nat} : ∀ {ds : List D}, (∀ d ∈ ds, Shp n d) → Shps n ds
  | [], _ => by unfold Shps; trivial
  | d :: ds, h => by
    unfold Shps
    exact ⟨h d List.mem_cons_self, shps_of fun e he => h e (List.mem_cons_of_mem _ he)⟩
theorem of_shps {n : Nat} : ∀ {ds : List D}, Shps n ds → ∀ d ∈ ds, Shp n d
  | d :: ds, h, e, he => by
    unfold Shps at h
    rcases List.mem_cons.mp he with z | z
    · subst z; exact h.1
    · exact of_shps h.2 e z
mutual
theorem shp_low {n : Nat} : ∀ {d : D}, Shp n d → (toPy d).canLay0 = true ∧ (toPy d).depth ≤ n
  | .non, _ => ⟨rfl, Nat.zero_le _⟩
  | .bl _, _ => ⟨rfl, Nat.zero_le _⟩
  | .int _, _ => ⟨rfl, Nat.zero_le _⟩
  | .str x, h => ⟨by cases n <;> (unfold Shp at h; exact h), Nat.zero_le _⟩
  | .tup ds, h => by
    cases n with
    | zero => exact h.elim
    | succ n =>
      unfold Shp at h
      obtain ⟨h1, h2⟩ := shps_low h
      exact ⟨h1, by show (PyData.depthAll (toPys ds)) + 1 ≤ n + 1; omega⟩
  | .lst ds, h => by
    cases n with
    | zero => exact h.elim
    | succ n =>
      unfold Shp at h
      obtain ⟨h1, h2⟩ := shps_low h
      exact ⟨h1, by show (PyData.depthAll (toPys ds)) + 1 ≤ n + 1; omega⟩
  | .ro ds, h => by
    cases n with
    | zero => exact h.elim
    | succ n =>
      unfold Shp at h
      obtain ⟨h1, h2⟩ := shps_low h
      exact ⟨h1, by show (PyData.depthAll (toPys ds)) + 1 ≤ n + 1; omega⟩
  | .ty _, h => by cases n <;> exact h.elim
  | .ref _, h => by cases n <;> exact h.elim
  | .dct _ _, h => by cases n <;> exact h.elim
theorem shps_low {n : Nat} : ∀ {ds : List D}, Shps n ds → PyData.canLayAll0 (toPys ds) = true ∧ PyData.depthAll (toPys ds) ≤ n
  | [], _ => ⟨rfl, Nat.zero_le _⟩
  | d :: ds, h => by
    unfold Shps at h
    obtain ⟨a1, a2⟩ := shp_low h.1
    obtain ⟨b1, b2⟩ := shps_low h.2
    refine ⟨?_, ?_⟩
    · show (PyData.canLay0 (toPy d) && PyData.canLayAll0 (toPys ds)) = true
      rw [a1, b1]; rfl
    · show max (PyData.depth (toPy d)) (PyData.depthAll (toPys ds)) ≤ n
      omega
end
theorem shaped_of {d : D} (h : Shp 60 d) : SeqAt.shaped (toPy d) = true := by
  obtain ⟨h1, h2⟩ := shp_low h
  unfold SeqAt.shaped
  rw [h1, Bool.true_and]
  exact decide_eq_true (Nat.le_trans h2 (by decide))
section
variable {K : PySem.W.Frag} {F H : Hp}
mutual
theorem dp_of (e : Same F H) {n : Nat} : ∀ {d : D} {v : V}, Rep K F d v → Shp n d → Dp K H v (toPy d)
  | .non, _, r, _ => by cases (show _ = V.non from r); exact .non
  | .bl b, _, r, _ => by cases (show _ = V.bl b from r); exact .bl b
  | .int b, _, r, _ => by cases (show _ = V.int b from r); exact .int b
  | .str b, _, r, _ => by cases (show _ = V.str b from r); exact .str b
  | .tup ds, _, ⟨a, vs, e1, h1, h2⟩, h => by
    subst e1
    cases n with
    | zero => exact h.elim
    | succ n => unfold Shp at h; exact .tup (sameT e h1) (dps_of e h2 h)
  | .lst ds, _, ⟨a, vs, e1, h1, h2⟩, h => by
    subst e1
    cases n with
    | zero => exact h.elim
    | succ n => unfold Shp at h; exact .lst (SqL.of (e _ _ h1)) (dps_of e h2 h)
  | .ro ds, _, ⟨a, vs, e1, h1, h2⟩, h => by
    subst e1
    cases n with
    | zero => exact h.elim
    | succ n => unfold Shp at h; exact .lst (e.seq h1) (dps_of e h2 h)
  | .ty _, _, _, h => by cases n <;> exact h.elim
  | .ref _, _, _, h => by cases n <;> exact h.elim
  | .dct _ _, _, _, h => by cases n <;> exact h.elim
theorem dps_of (e : Same F H) {n : Nat} : ∀ {ds : List D} {vs : List V}, Reps K F ds vs → Shps n ds → DpAll K H vs (toPys ds)
  | [], _, r, _ => by cases (show _ = ([] : List V) from r); exact .nil
  | d :: ds, _, ⟨v, r, e1, h1, h2⟩, h => by
    subst e1
    unfold Shps at h
    exact .cons (dp_of e h1 h.1) (dps_of e h2 h.2)
end
end
/-- a written list stands for what it holds -/
def dres (M : Cells) (d : D) : D := match d with
  | .ref p => (M p).getD d
  | d => d
def eqD (a b : D) : Bool := PyData.eqv (toPy a) (toPy b)
def fEq (x y : D) (M : Cells) (Q : DK) : Prop := Shp 60 (dres M x) ∧ Shp 60 (dres M y) ∧ Q (.bl (eqD (dres M x) (dres M y))) M
def fNe (x y : D) (M : Cells) (Q : DK) : Prop := Shp 60 (dres M x) ∧ Shp 60 (dres M y) ∧ Q (.bl (!eqD (dres M x) (dres M y))) M
section
variable {K : PySem.W.Frag} {F H : Hp} {M : Cells}
theorem dp_res (S : StaC K F H M) {d : D} {v : V} (r : Rep K F d v) {n : Nat} (h : Shp n (dres M d)) : Dp K H v (toPy (dres M d)) := by
  cases d with
  | ref p =>
    cases e : M p with
    | none =>
      have e2 : dres M (.ref p) = .ref p := by show (M p).getD (.ref p) = _; rw [e]; rfl
      rw [e2] at h
      cases n <;> exact h.elim
    | some c =>
      have e2 : dres M (.ref p) = c := by show (M p).getD (.ref p) = _; rw [e]; rfl
      rw [e2] at h ⊢
      cases (show v = V.ref p from r)
      have hc := (S.cell p c e).2
      cases c with
      | lst ds =>
        obtain ⟨vs, h1, h2⟩ := hc
        cases n with
        | zero => exact h.elim
        | succ n => unfold Shp at h; exact .lst (SqL.of h1) (dps_of S.sub h2 h)
      | dct ks ds => cases n <;> exact h.elim
      | _ => exact hc.elim
  | _ => exact dp_of S.sub r h
theorem lr_eq : LR K (rEqD K) fEq := fun σ H F ρ M Qd x y dx dy S rx ry h Q q =>
  ⟨_, _, dp_res S.toStaC rx h.1, dp_res S.toStaC ry h.2.1, shaped_of h.1, shaped_of h.2.1, q.here S h.2.2 rfl⟩
theorem lr_ne : LR K (rNeD K) fNe := fun σ H F ρ M Qd x y dx dy S rx ry h Q q =>
  ⟨_, _, dp_res S.toStaC rx h.1, dp_res S.toStaC ry h.2.1, shaped_of h.1, shaped_of h.2.1, q.here S h.2.2 rfl⟩
end
mutual
theorem eqv_self : ∀ d : D, PyData.eqv (toPy d) (toPy d) = true
  | .non => rfl
  | .bl b => by show (b == b) = true; simp
  | .int b => by show (b == b) = true; simp
  | .str b => by show (b == b) = true; simp
  | .tup ds => eqvs_self ds
  | .lst ds => eqvs_self ds
  | .ro ds => eqvs_self ds
  | .ty _ => rfl
  | .ref _ => rfl
  | .dct _ _ => rfl
theorem eqvs_self : ∀ ds : List D, PyData.eqvAll (toPys ds) (toPys ds) = true
  | [] => rfl
  | d :: ds => by
    show (PyData.eqv (toPy d) (toPy d) && PyData.eqvAll (toPys ds) (toPys ds)) = true
    rw [eqvs_self ds, Bool.and_true]
    exact eqv_self d
end
theorem eqD_refl (d : D) : eqD d d = true := eqv_self d
/-- x is None, x is not None -/
def nonD : D → Bool
  | .non => true
  | _ => false
def fIsN (x y : D) (M : Cells) (Q : DK) : Prop := match y with
  | .non => Q (.bl (nonD x)) M
  | _ => False
def fNotN (x y : D) (M : Cells) (Q : DK) : Prop := match y with
  | .non => Q (.bl (!(nonD x))) M
  | _ => False
theorem rep_non {K : PySem.W.Frag} {F : Hp} {d : D} {v : V} (r : Rep K F d v) : decide (v = .non) = nonD d := by
  cases d with
  | non => cases (show v = _ from r); rfl
  | bl b => cases (show v = _ from r); rfl
  | int b => cases (show v = _ from r); rfl
  | str b => cases (show v = _ from r); rfl
  | ty b => cases (show v = _ from r); rfl
  | ref b => cases (show v = _ from r); rfl
  | tup ds => obtain ⟨a, vs, rfl, _⟩ := r; rfl
  | lst ds => obtain ⟨a, vs, rfl, _⟩ := r; rfl
  | ro ds => obtain ⟨a, vs, rfl, _⟩ := r; rfl
  | dct ks ds => obtain ⟨a, vs, rfl, _⟩ := r; rfl
theorem lr_isN {K : PySem.W.Frag} : LR K (fun x y H Q => y = .non ∧ Q (.bl (decide (x = .non))) H) fIsN := fun σ H F ρ M Qd x y dx dy S rx ry h Q q => by
  cases dy with
  | non => exact ⟨ry, by rw [rep_non rx]; exact q.here S h rfl⟩
  | _ => exact h.elim
theorem lr_notN {K : PySem.W.Frag} : LR K (fun x y H Q => y = .non ∧ Q (.bl (!decide (x = .non))) H) fNotN := fun σ H F ρ M Qd x y dx dy S rx ry h Q q => by
  cases dy with
  | non => exact ⟨ry, by rw [rep_non rx]; exact q.here S h rfl⟩
  | _ => exact h.elim

/-! ### methods of lists -/
def LM (K : PySem.W.Frag) (r : V → List V → Hp → VK → Prop) (f : D → List D → Cells → DK → Prop) : Prop :=
  ∀ (σ : L2.St) (H F : Hp) (ρ : Rho) (M : Cells) (Qd : DK) (x : V) (xs : List V) (d : D) (ds : List D), Sta K F H σ ρ M → Rep K F d x → Reps K F ds xs → f d ds M Qd → ∀ Q : VK, QOk K F σ ρ Qd Q → r x xs H Q
def tyD (T : String) (d : D) (M : Cells) : Prop := match d with
  | .str _ => T = "str"
  | d => T = "list" ∧ ∃ ds, asL M d = some ds
def wM (T : String) (f : D → List D → Cells → DK → Prop) (wo : WE) (wa : WA) : WE := fun ρ M E Q => wo ρ M E fun d M1 => tyD T d M1 ∧ wa ρ M1 E fun ds M2 => f d ds M2 Q
theorem tyD_ok {K : PySem.W.Frag} {F H : Hp} {M : Cells} {T : String} {d : D} {v : V} (S : StaC K F H M) (r : Rep K F d v) (h : tyD T d M) : tyV K T v H := by
  have lst : (T = "list" ∧ ∃ ds, asL M d = some ds) → tyV K T v H := fun ⟨e, ds, h⟩ => by
    obtain ⟨a, vs, rfl, ha, _⟩ := asL_ok S r h
    exact .inl ⟨e, vs, SqL.of ha⟩
  cases d with
  | str z => cases (show v = _ from r); exact h
  | _ => exact lst h
section
variable {X : Cx} {K : PySem.W.Frag} {Ew : XK} {o e : Expr} {es : List Expr} {wo : WE} {wa : WA} {name : Str} {apos cpos : Pos} {T id : String} {r : V → List V → Hp → VK → Prop} {f : D → List D → Cells → DK → Prop}
theorem d_m0 (pa : PlainAttrs T) (slot : Slot T name id) (hty : typeOf (.builtin id) = pure (.type "method_descriptor")) (hm : MtR X id r) (hl : LM X.K r f) (ho : DE X Ew o wo)
    (hbase : attributeBase o name X.env (eval o X.env) = eval o X.env := by rfl) (hline : (apos.endLine == cpos.line) = true := by rfl) : DE X Ew (.Call (.Attribute o name apos) [] [] cpos) (wM T f wo wNil) :=
  let ⟨_, po, lo⟩ := ho; ⟨_, pe_bm0 pa slot hty hm po hbase hline, fun σ H F ρ M Ed Qd S E h Q q => lo σ H F ρ M Ed _ S E h _ fun v H1 F1 d M1 e1 S1 r1 h1 =>
    ⟨tyD_ok S1.toStaC r1 h1.1, hl σ H1 F1 ρ M1 Qd v [] d [] S1 r1 rfl h1.2 Q (q.mono e1)⟩⟩
theorem d_m (pa : PlainAttrs T) (slot : Slot T name id) (hty : typeOf (.builtin id) = pure (.type "method_descriptor")) (hm : MtR X id r) (hl : LM X.K r f) (ho : DE X Ew o wo) (ha : DA X Ew (e :: es) wa)
    (hbase : attributeBase o name X.env (eval o X.env) = eval o X.env := by rfl)
    (hfew : ((backTo cpos (starEach (e :: es) X.env)).all (fun x => !x.1) && (backToKw cpos (keywordEach [] X.env)).all (fun x => x.1.isSome)
      && decide ((e :: es).length + ([] : List Keyword).length + (if ([] : List Keyword).isEmpty then 0 else 1) < 30)) = true := by rfl)
    (hline : (apos.endLine == cpos.line) = true := by rfl) (hs : starEach (e :: es) X.env = (false, eval e X.env) :: starEach es X.env := by rfl) (hplain : (backTo cpos (starEach es X.env)).any (·.1) = false := by rfl) :
    DE X Ew (.Call (.Attribute o name apos) (e :: es) [] cpos) (wM T f wo wa) :=
  let ⟨_, po, lo⟩ := ho; let ⟨_, pp, la⟩ := ha; ⟨_, pe_bm pa slot hty hm po pp hbase hfew hline hs hplain, fun σ H F ρ M Ed Qd S E h Q q => lo σ H F ρ M Ed _ S E h _ fun v H1 F1 d M1 e1 S1 r1 h1 =>
    ⟨tyD_ok S1.toStaC r1 h1.1, la σ H1 F1 ρ M1 Ed _ S1 (E.mono e1) h1.2 _ fun vs H2 F2 ds M2 e2 S2 r2 h2 => hl σ H2 F2 ρ M2 Qd v vs d ds S2 (r1.mono e2) r2 h2 Q (q.mono (e1.trans e2))⟩⟩
def onRef (d : D) (f : Addr → Prop) : Prop := match d with
  | .ref p => f p
  | _ => False
theorem onRef_ok {d : D} {f : Addr → Prop} (h : onRef d f) : ∃ p, d = .ref p ∧ f p := by
  unfold onRef at h
  split at h
  · exact ⟨_, rfl, h⟩
  · exact h.elim
def fApp (d : D) (ds : List D) (M : Cells) (Q : DK) : Prop := onRef d fun p => on1 ds fun y => onO (lstC (M p)) fun xs => xs.length < sizeLine ∧ Q .non (up M p (.lst (xs ++ [y])))
theorem lm_app : LM K rAppend fApp := fun σ H F ρ M Qd x xs d ds S rx rxs h Q q => by
  obtain ⟨p, rfl, h1⟩ := onRef_ok h
  obtain ⟨y, rfl, h2⟩ := on1_ok h1
  obtain ⟨zs, e1, hz, h3⟩ := h2
  obtain ⟨v, rfl, rv⟩ := reps1 rxs
  cases (show x = _ from rx)
  obtain ⟨_, vs, hv, hr⟩ := S.cell p _ (lstC_ok e1)
  exact ⟨p, vs, v, rfl, rfl, hv, by rw [← hr.len]; exact hz, q _ _ F .non _ (Same.refl F) (S.setC (lstC_ok e1) (c := .lst _) ⟨_, upd_same, hr.append (Reps.cons rv Reps.nil)⟩) rfl h3⟩
/-- xs.extend(ys), ys a list that stands or a written one -/
def fExt (d : D) (ds : List D) (M : Cells) (Q : DK) : Prop := onRef d fun p => on1 ds fun y => onO (lstC (M p)) fun xs => onO (asL M y) fun ys => xs.length + ys.length ≤ sizeLine ∧ Q .non (up M p (.lst (xs ++ ys)))
theorem lm_ext : LM K rExtend fExt := fun σ H F ρ M Qd x xs d ds S rx rxs h Q q => by
  obtain ⟨p, rfl, h1⟩ := onRef_ok h
  obtain ⟨y, rfl, h2⟩ := on1_ok h1
  obtain ⟨zs, e1, ys, e2, hz, h3⟩ := h2
  obtain ⟨v, rfl, rv⟩ := reps1 rxs
  cases (show x = _ from rx)
  obtain ⟨_, vs, hv, hr⟩ := S.cell p _ (lstC_ok e1)
  obtain ⟨b, ws, rfl, hb, hr2⟩ := asL_ok S.toStaC rv e2
  exact ⟨p, b, vs, ws, rfl, rfl, hv, hb, by rw [← hr.len, ← hr2.len]; exact hz, q _ _ F .non _ (Same.refl F) (S.setC (lstC_ok e1) (c := .lst _) ⟨_, upd_same, hr.append hr2⟩) rfl h3⟩
def fPop (d : D) (ds : List D) (M : Cells) (Q : DK) : Prop := onRef d fun p => ds = [] ∧ onO (lstC (M p)) fun xs => onO xs[xs.length - 1]? fun y => Q y (up M p (.lst xs.dropLast))
theorem lm_pop : LM K rPop fPop := fun σ H F ρ M Qd x xs d ds S rx rxs h Q q => by
  obtain ⟨p, rfl, rfl, zs, e1, y, e2, h3⟩ := onRef_ok h
  cases (show x = _ from rx)
  obtain ⟨_, vs, hv, hr⟩ := S.cell p _ (lstC_ok e1)
  obtain ⟨v, hv2, rv⟩ := hr.get e2
  exact ⟨p, vs, v, rfl, rxs, hv, by rw [← hr.len]; exact hv2, q _ _ F y _ (Same.refl F) (S.setC (lstC_ok e1) (c := .lst _) ⟨_, upd_same, hr.dropLast⟩) rv h3⟩
def fPopAt (d : D) (ds : List D) (M : Cells) (Q : DK) : Prop := onRef d fun p => on1 ds fun i => onI i fun k => onO (lstC (M p)) fun xs => (-(2 ^ 63) ≤ k ∧ k < 2 ^ 63) ∧ onO (ixN xs.length k) fun j => onO xs[j]? fun y => Q y (up M p (.lst (xs.eraseIdx j)))
theorem lm_popAt : LM K rPopAt fPopAt := fun σ H F ρ M Qd x xs d ds S rx rxs h Q q => by
  obtain ⟨p, rfl, h1⟩ := onRef_ok h
  obtain ⟨i, rfl, h2⟩ := on1_ok h1
  obtain ⟨k, rfl, h3⟩ := onI_ok h2
  obtain ⟨zs, e1, hb, j, ej, y, e2, h4⟩ := h3
  obtain ⟨v, rfl, rv⟩ := reps1 rxs
  cases (show v = V.int k from rv)
  cases (show x = _ from rx)
  obtain ⟨_, vs, hv, hr⟩ := S.cell p _ (lstC_ok e1)
  obtain ⟨u, hu, ru⟩ := hr.get e2
  exact ⟨p, vs, k, j, u, rfl, rfl, hv, hb.1, hb.2, by rw [← hr.len]; exact (ixN_seq ej).1, hu, q _ _ F y _ (Same.refl F) (S.setC (lstC_ok e1) (c := .lst _) ⟨_, upd_same, hr.eraseIdx j⟩) ru h4⟩
theorem d_append (ho : DE X Ew o wo) (ha : DA X Ew (e :: es) wa)
    (hbase : attributeBase o "append" X.env (eval o X.env) = eval o X.env := by rfl)
    (hfew : ((backTo cpos (starEach (e :: es) X.env)).all (fun x => !x.1) && (backToKw cpos (keywordEach [] X.env)).all (fun x => x.1.isSome)
      && decide ((e :: es).length + ([] : List Keyword).length + (if ([] : List Keyword).isEmpty then 0 else 1) < 30)) = true := by rfl)
    (hline : (apos.endLine == cpos.line) = true := by rfl) (hs : starEach (e :: es) X.env = (false, eval e X.env) :: starEach es X.env := by rfl) (hplain : (backTo cpos (starEach es X.env)).any (·.1) = false := by rfl) :
    DE X Ew (.Call (.Attribute o "append" apos) (e :: es) [] cpos) (wM "list" fApp wo wa) :=
  d_m PySem.F.plainAttrs_list PySem.F.slot_list_append PySem.F.type_list_append mt_append lm_app ho ha hbase hfew hline hs hplain
end

/-! ### defs: their promises, their calls -/
abbrev Phi := List D → Cells → EK → DK → Prop
def SpF (K : PySem.W.Frag) (n : Nat) (φ : Phi) : Sp := fun vs H Q E => vs.length = n ∧ ∃ F ds M Ed Qd, StaC K F H M ∧ Reps K F ds vs ∧ φ ds M Ed Qd ∧ EOk K E F Ed ∧
  ∀ v H' F' d M', Same F F' → StaC K F' H' M' → Rep K F' d v → Qd d M' → Q v H'
structure Kn (P : Program) (w : World) (K : PySem.W.Frag) (mg : Str → Option Value) (base : Heap) (k : Nat) (x : Str) (n : Nat) (φ : Phi) : Prop where
  ex : ∃ f fd ps, List.length ps = n ∧ mg x = some (.ref f) ∧ FnOk P w K mg base (L2.CX P w) k f fd ps (SpF K n φ) ∧ PySem.W.keepIn K (.ref f) = true ∧ Binds K fd ps []
theorem Kn.mono {P : Program} {w : World} {K : PySem.W.Frag} {mg : Str → Option Value} {base : Heap} {j k : Nat} {x : Str} {n : Nat} {φ : Phi} (h : Kn P w K mg base j x n φ) (l : j ≤ k) : Kn P w K mg base k x n φ :=
  let ⟨f, fd, ps, h1, h2, h3, h4, h5⟩ := h.ex; ⟨f, fd, ps, h1, h2, h3.mono l, h4, h5⟩
theorem Kn.imp {P : Program} {w : World} {K : PySem.W.Frag} {mg : Str → Option Value} {base : Heap} {k : Nat} {x : Str} {n : Nat} {φ ψ : Phi} (h : Kn P w K mg base k x n φ) (l : ∀ ds M E Q, ψ ds M E Q → φ ds M E Q) : Kn P w K mg base k x n ψ :=
  let ⟨f, fd, ps, h1, h2, h3, h4, h5⟩ := h.ex; ⟨f, fd, ps, h1, h2, h3.imp fun vs H Q E ⟨q1, F, ds, M, Ed, Qd, q2, q3, q4, q5⟩ => ⟨q1, F, ds, M, Ed, Qd, q2, q3, l _ _ _ _ q4, q5⟩, h4, h5⟩
def wDef (φ : Phi) (w : WA) : WE := fun ρ M E Q => w ρ M E fun ds M1 => φ ds M1 E Q
/-- what a caller may let out -/
abbrev Lets (X : Cx) (Ew : XK) : Prop := Passes (L2.CX X.prog X.w) X Ew
section
variable {X : Cx} {Ew : XK} {k n : Nat} {x : Str} {φ : Phi} {e : Expr} {es : List Expr} {w : WA} {p pos : Pos}
theorem le_def {K : PySem.W.Frag} {t : TA} (hφ : ∀ ds M E Q, φ ds M E Q → ds.length = n) (la : LA K Ew t w) : LE K Ew (tCall (SpF K n φ) [] Ew t) (wDef φ w) := fun σ H F ρ M Ed Qd S E h Q q =>
  la σ H F ρ M Ed _ S E h _ fun vs H1 F1 ds M1 e1 S1 r1 h1 => by
    rw [List.append_nil]
    refine ⟨by rw [← r1.len]; exact hφ _ _ _ _ h1, F1, ds, M1, Ed, Qd, S1.toStaC, r1, h1, E.mono e1, fun v H' F' d M' e2 S2 r2 h2 => q v H' F' d M' (e1.trans e2) ⟨S2, S.sl.mono (e1.trans e2)⟩ r2 h2⟩
theorem d_def (G : Kn X.prog X.w X.K X.mg X.base k x n φ) (hφ : ∀ ds M E Q, φ ds M E Q → ds.length = n) (hr : Room k X.A) (hx : Lets X Ew) (ha : DA X Ew (e :: es) w) (hg : Gl X x := by rfl) (hdb : (x == ("__debug__" : Str)) = false := by decide)
    (he : starEach (e :: es) X.env = (false, eval e X.env) :: starEach es X.env := by rfl) (hpl : (backTo pos (starEach es X.env)).any (·.1) = false := by rfl) : DE X Ew (.Call (.Name x p) (e :: es) [] pos) (wDef φ w) :=
  let ⟨f, fd, ps, h1, h2, h3, h4, h5⟩ := G.ex; let ⟨_, pa, la⟩ := ha; ⟨_, pe_call h3 hr hg h2 h4 h5 .nil hx pa hdb he hpl, le_def hφ la⟩
end
theorem lets_in {P : Program} {w : World} {K : PySem.W.Frag} {mg : Str → Option Value} {base : Heap} {N : List Str} {qual : Str} {sc : Scope} {f : Addr} {cd : Value} {A : Around} {outer : List Env} {s : Shared} {H : Hp} {E : XK} :
    Lets (cxOf (L2.CX P w) P w K mg base N qual sc f cd A outer s H E) E := passes_call (takes_of rfl rfl rfl rfl) fun _ _ _ _ h => h
theorem own_in {P : Program} {w : World} {K : PySem.W.Frag} {mg : Str → Option Value} {base : Heap} {N : List Str} {qual : Str} {sc : Scope} {f : Addr} {cd : Value} {A : Around} {outer : List Env} {s : Shared} {H : Hp} {E : XK} :
    PassesOwn (model P w) (cxOf (L2.CX P w) P w K mg base N qual sc f cd A outer s H E).A (cxOf (L2.CX P w) P w K mg base N qual sc f cd A outer s H E).env (cxOf (L2.CX P w) P w K mg base N qual sc f cd A outer s H E).xe :=
  passes_of (X := cxOf (L2.CX P w) P w K mg base N qual sc f cd A outer s H E) rfl
theorem lets_blk {X : Cx} {s : Shared} {H : Hp} {scope : Scope} {env : Env} {fp : List Addr} : Lets (X.blk s H scope env fp) EF := passL
def startD (N : List Str) (ds : List D) : Rho := ds.map some ++ List.replicate (N.length - ds.length) none
theorem slots_start {K : PySem.W.Frag} {F : Hp} : ∀ (ds : List D) (vs : List V) (m : Nat), Reps K F ds vs → Slots K F (vs.map some ++ List.replicate m none) (ds.map some ++ List.replicate m none)
  | [], vs, 0, r => by cases (show vs = [] from r); rfl
  | [], vs, m + 1, r => by
    cases (show vs = [] from r)
    exact ⟨none, _, rfl, (fun _ e => nomatch e), slots_start [] [] m rfl⟩
  | d :: ds, _, m, ⟨v, vs, e, r1, r2⟩ => by
    subst e
    exact ⟨some d, _, rfl, fun _ e => ⟨v, rfl, by cases e; exact r1⟩, slots_start ds vs m r2⟩
structure QLe (Q : DK) (d : D) (M' : Cells) : Prop where
  ex : ∃ M, Le M M' ∧ Q d M
structure ELe (Q : EK) (c : Addr) (M' : Cells) : Prop where
  ex : ∃ M, Le M M' ∧ Q c M
theorem QLe.i {Q : DK} {d : D} {M : Cells} (h : Q d M) : QLe Q d M := ⟨M, Le.refl M, h⟩
theorem QLe.of {Q : DK} {d : D} {M M' : Cells} (l : Le M M') (h : Q d M) : QLe Q d M' := ⟨M, l, h⟩
theorem ELe.i {Q : EK} {c : Addr} {M : Cells} (h : Q c M) : ELe Q c M := ⟨M, Le.refl M, h⟩
theorem ELe.of {Q : EK} {c : Addr} {M M' : Cells} (l : Le M M') (h : Q c M) : ELe Q c M' := ⟨M, l, h⟩
/-- THE RULE for a def: its body's reading, and what the reading gives -/
theorem fn_of {P : Program} {w : World} {K : PySem.W.Frag} {mg : Str → Option Value} {base : Heap} {x : Str} {params : Arguments} {body : List Stmt} {scope : Scope} {f : Addr} {fd : FuncData} {N ps : List Str} {k n : Nat} {φ : Phi} {ws : WS}
    (F : FunD K x x params body scope [] [] f fd) (S : FnScope N ps scope) (hn : ps.length = n)
    (body_ok : ∀ (cdv : Value) (A : Around) (outer : List Env) (s : Shared) (H : Hp) (E : XK), Room k (A.deeper (envOfC x scope s.heap.objs.size f cdv)) → DSs (cxOf (L2.CX P w) P w K mg base N x scope f cdv A outer s H E) E body ws)
    (vc : ∀ ds M Ed Qd, φ ds M Ed Qd → ws { nx := fun _ M' => QLe Qd .non M', rt := QLe Qd } (ELe Ed) (startD N ds) M) : FnOk P w K mg base (L2.CX P w) (k + 1) f fd ps (SpF K n φ) := by
  refine F.ok S (fun vs H Q E h => by rw [h.1, hn]) (fun cdv A outer s H vs Q E hr h => ?_)
  obtain ⟨hl, G, ds, M, Ed, Qd, S0, r0, h0, E0, q0⟩ := h
  obtain ⟨t, pt, lt⟩ := body_ok cdv A outer s H E hr
  refine ⟨t, pt, lt (L2.start N vs) H G (startD N ds) M (ELe Ed) _ ⟨S0, ?_⟩ ?_ (vc ds M Ed Qd h0) _ ⟨?_, ?_, ?_, ?_⟩⟩
  · unfold startD L2.start
    rw [r0.len]
    exact slots_start ds vs _ r0
  · exact fun c H' F' M' e S1 ⟨⟨M1, l, h1⟩⟩ => E0 c H' F' M1 e (S1.le l) h1
  · exact fun σ' H' F' ρ' M' e S1 ⟨⟨M1, l, h1⟩⟩ => q0 .non H' F' .non M1 e (S1.toStaC.le l) rfl h1
  · exact fun _ _ _ _ _ _ _ h => h
  · exact fun _ _ _ _ _ _ _ h => h
  · exact fun v H' F' d M' e S1 r1 ⟨⟨M1, l, h1⟩⟩ => q0 v H' F' d M1 e (S1.le l) r1 h1
theorem kn_of {P : Program} {w : World} {K : PySem.W.Frag} {mg : Str → Option Value} {base : Heap} {x : Str} {params : Arguments} {body : List Stmt} {scope : Scope} {f : Addr} {N ps : List Str} {k n : Nat} {φ : Phi} {ws : WS}
    (F : ∃ fd, FunD K x x params body scope [] [] f fd) (gx : mg x = some (.ref f)) (S : FnScope N ps scope) (hn : ps.length = n)
    (hb : ∀ (kV doc pm : Value) (an : Option Addr) (cdv ct : Value) (us : List Value), us.length = ps.length → bindArgs (PySem.W.fnOf x x params body scope .none kV doc pm an cdv ct) ⟨us, []⟩ = pure (ps.zip us))
    (body_ok : ∀ (cdv : Value) (A : Around) (outer : List Env) (s : Shared) (H : Hp) (E : XK), Room k (A.deeper (envOfC x scope s.heap.objs.size f cdv)) → DSs (cxOf (L2.CX P w) P w K mg base N x scope f cdv A outer s H E) E body ws)
    (vc : ∀ ds M Ed Qd, φ ds M Ed Qd → ws { nx := fun _ M' => QLe Qd .non M', rt := QLe Qd } (ELe Ed) (startD N ds) M) : Kn P w K mg base (k + 1) x n φ := by
  obtain ⟨fd, F⟩ := F
  exact ⟨f, fd, ps, hn, gx, fn_of F S hn body_ok vc, F.kp, F.bindsN hb⟩

/-! ### short words for promises -/
abbrev P1 (φ : D → Cells → EK → DK → Prop) : Phi := fun ds M E Q => on1 ds fun a => φ a M E Q
abbrev P2 (φ : D → D → Cells → EK → DK → Prop) : Phi := fun ds M E Q => on2 ds fun a b => φ a b M E Q
def on3 (vs : List D) (f : D → D → D → Prop) : Prop := match vs with
  | [d, e, g] => f d e g
  | _ => False
theorem on3_ok {vs : List D} {f : D → D → D → Prop} (h : on3 vs f) : ∃ d e g, vs = [d, e, g] ∧ f d e g := by
  unfold on3 at h
  split at h
  · exact ⟨_, _, _, rfl, h⟩
  · exact h.elim
abbrev P3 (φ : D → D → D → Cells → EK → DK → Prop) : Phi := fun ds M E Q => on3 ds fun a b c => φ a b c M E Q
theorem ln1 {φ : D → Cells → EK → DK → Prop} : ∀ ds M E Q, P1 φ ds M E Q → ds.length = 1 := fun ds M E Q h => by obtain ⟨_, rfl, _⟩ := on1_ok h; rfl
theorem ln2 {φ : D → D → Cells → EK → DK → Prop} : ∀ ds M E Q, P2 φ ds M E Q → ds.length = 2 := fun ds M E Q h => by obtain ⟨_, _, rfl, _⟩ := on2_ok h; rfl
theorem ln3 {φ : D → D → D → Cells → EK → DK → Prop} : ∀ ds M E Q, P3 φ ds M E Q → ds.length = 3 := fun ds M E Q h => by obtain ⟨_, _, _, rfl, _⟩ := on3_ok h; rfl
/-- the reading w keeps the promise φ -/
def Ok (N : List Str) (φ : Phi) (w : WS) : Prop := ∀ ds M Ed Qd, φ ds M Ed Qd → w { nx := fun _ M' => QLe Qd .non M', rt := QLe Qd } (ELe Ed) (startD N ds) M
theorem ok1 {N : List Str} {φ : D → Cells → EK → DK → Prop} {w : WS} (h : ∀ a M Ed Qd, φ a M Ed Qd → w { nx := fun _ M' => QLe Qd .non M', rt := QLe Qd } (ELe Ed) (startD N [a]) M) : Ok N (P1 φ) w := fun ds M E Q hq => by
  obtain ⟨a, rfl, hq⟩ := on1_ok hq
  exact h a M E Q hq
theorem ok2 {N : List Str} {φ : D → D → Cells → EK → DK → Prop} {w : WS} (h : ∀ a b M Ed Qd, φ a b M Ed Qd → w { nx := fun _ M' => QLe Qd .non M', rt := QLe Qd } (ELe Ed) (startD N [a, b]) M) : Ok N (P2 φ) w := fun ds M E Q hq => by
  obtain ⟨a, b, rfl, hq⟩ := on2_ok hq
  exact h a b M E Q hq
theorem ok3 {N : List Str} {φ : D → D → D → Cells → EK → DK → Prop} {w : WS} (h : ∀ a b c M Ed Qd, φ a b c M Ed Qd → w { nx := fun _ M' => QLe Qd .non M', rt := QLe Qd } (ELe Ed) (startD N [a, b, c]) M) : Ok N (P3 φ) w := fun ds M E Q hq => by
  obtain ⟨a, b, c, rfl, hq⟩ := on3_ok hq
  exact h a b c M E Q hq

/-! ### sum of a tuple -/
theorem preSum_getD (ns : List Int) : ∀ j, preSum (fun i => ns.getD i 0) j = (ns.take j).sum
  | 0 => by simp [preSum]
  | j + 1 => by
    rw [preSum, preSum_getD ns j, List.take_succ]
    cases h : ns[j]? with
    | none => simp [List.getD, h]
    | some v => simp [List.getD, h]
theorem ints_at : ∀ {us : List Value} {ns : List Int} {i : Nat} {v : Value}, IntsAre us ns → us[i]? = some v → ∃ t, v = .int (ns.getD i 0) t := fun {us ns i v} h e => by
  have r := vals_of_ints h
  have hl : i < us.length := (List.getElem?_eq_some_iff.mp e).1
  have hl2 : i < (ns.map V.int).length := by rw [r.length]; exact hl
  obtain ⟨u, hu, ru⟩ := r.get (List.getElem?_eq_getElem hl2)
  rw [e] at hu; cases hu
  rw [List.getElem_map] at ru
  obtain ⟨t, rfl⟩ := ru
  have hl3 : i < ns.length := by simpa using hl2
  exact ⟨t, by rw [List.getD_eq_getElem?_getD, List.getElem?_eq_getElem hl3]; rfl⟩
theorem cr_sumA {X : Cx} (hc : X.calm = true) : CallR X (.builtin "sum") (rSumA X.K) := by
  intro pins s σ H vs us Q I r h
  obtain ⟨a, ns, e, hs, q⟩ := h
  rcases hs with hs | hs
  · exact cr_sum hc pins s σ H vs us Q I r ⟨a, ns, e, hs, q⟩
  · subst e
    obtain ⟨its, rv, ht, _⟩ := I.tuple hs
    have hi := rv.ints
    have hT : s.heap.IsTuple a its.toArray := ht
    rw [Vals.ref1 r]
    have hlt : a < s.heap.objs.size := ht.lt
    refine call_sum_walkG (wpAny_pyIter_tuple hT ⟨s.heap.objs.size, _, _, _, _, _, fun i => ns.getD i 0, rfl, Walks.tuple (A := X.A.in1) (I.ok.hd hc) _ a (Nat.ne_of_lt hlt) its.toArray, ⟨⟨_, Heap.get?_push_size _ rfl, rfl, rfl⟩, hT.at fun o e => Heap.get?_push_of_some _ e⟩, fun b hb => ?_, fun i v hv => ?_, fun h' tk t' hk => ?_⟩)
    · rw [Heap.size_push]
      have hb' : b = s.heap.objs.size ∨ b = a := by simpa using hb
      rcases hb' with z | z
      · subst z; exact Nat.lt_succ_self _
      · subst z; exact Nat.lt_succ_of_lt hlt
    · exact ints_at hi (by simpa using hv)
    · refine ⟨.int ns.sum, H, I.kept fun b o eo => hk b o (fun hm => ?_) (Heap.get?_push_of_some _ eo), ⟨t', ?_⟩, q⟩
      · have z : b = s.heap.objs.size := by simpa using hm
        subst z
        exact absurd (Heap.lt_size eo) (Nat.lt_irrefl _)
      · have z : its.toArray.size = ns.length := by rw [List.size_toArray, ← rv.length, List.length_map]
        rw [z, preSum_getD, List.take_length]
end DL

set_option Elab.async false
set_option linter.all false
set_option maxRecDepth 100000
set_option maxHeartbeats 4000000
namespace PySem
open Sem (wp)
open AutoSeq1 (wpAny_loadPart')
/-- enumerate(v) of whatever begins -/
theorem enum1_meets {v : Value} {o : Obj} {HH : Heap → Prop} (B : Begins v o HH) :
    Meets (Builtin.«enumerate.__new__» ⟨[.type "enumerate", v], []⟩) (fun _ R st => HH st.heap ∧
      R (.ok (.ret (.ref (st.heap.push o).objs.size))) { st with heap := (st.heap.push o).push { cls := .type "enumerate", data := .fields #[.none, .bool false, .ref st.heap.objs.size, rawInt 0, .none, .none] } }) :=
  .of_wp fun prog w A R st hh => by
    obtain ⟨hp, g, d, tk, os⟩ := st
    obtain ⟨hb, hr⟩ := hh
    have hsub := sub_enumerate
    have qv : ∀ {A' : Around} {E : Value → Shared → Prop} {Q : Value → Shared → Prop}, Q (.ref hp.objs.size) ⟨hp.push o, g, d, tk, os⟩ → wpAny (model prog w) A' (pyIter v) Q E ⟨hp, g, d, tk, os⟩ :=
      fun z => B.iter prog w _ _ ⟨hp, g, d, tk, os⟩ _ hb z
    wp_walk using qv
    refine wpAny_stack_any fun _ => wpAny_pure ?_
    split
    · rename_i c _ _ _ _ _
      cases (c == Value.type "enumerate") <;> (wp_walk using qv; exact ⟨_, rfl, hr⟩)
    · wp_walk using qv
      exact ⟨_, rfl, hr⟩
theorem enum1_call {prog : Program} {w : World} {A : Around} {E : Value → Shared → Prop} {st : Shared} {v : Value} {o : Obj} {HH : Heap → Prop} {Q : Value → Shared → Prop} (B : Begins v o HH) (hb : HH st.heap)
    (hq : ∀ h', IsEnum h' (st.heap.objs.size + 1) st.heap.objs.size 0 .none → h'.get? st.heap.objs.size = some o → (∀ b u, st.heap.get? b = some u → h'.get? b = some u) → Q (.ref (st.heap.objs.size + 1)) { st with heap := h' }) :
    wpAny (model prog w) A (call (.type "enumerate") [v]) Q E st := by
  refine callType_new F.called_enumerate (by decide) (F.typeCall_enumerate_1 _) (F.newCall_enumerate_1 _) (fun obj => F.args_object_init_2 obj _) F.entry_enumerate_new (enum1_meets B) ⟨hb, ?_⟩
  have hz : (st.heap.push o).objs.size = st.heap.objs.size + 1 := Heap.size_push ..
  have he : IsEnum ((st.heap.push o).push { cls := .type "enumerate", data := .fields #[.none, .bool false, .ref st.heap.objs.size, rawInt 0, .none, .none] }) (st.heap.objs.size + 1) st.heap.objs.size 0 .none := by
    have z := Heap.get?_push_size (st.heap.push o) (o := { cls := .type "enumerate", data := .fields #[.none, .bool false, .ref st.heap.objs.size, rawInt 0, .none, .none] }) rfl
    rw [hz] at z
    exact z
  show _ ∧ _
  rw [hz]
  exact ⟨⟨_, he, rfl⟩, hq _ he (Heap.get?_push_of_some _ (Heap.get?_push_size _ B.free)) fun b u z => Heap.get?_push_of_some _ (Heap.get?_push_of_some _ z)⟩
theorem enumT_end {prog : Program} {w : World} {A : Around} {E : Value → Shared → Prop} {st : Shared} {e it l : Addr} {i j : Nat} {items : Array Value} {old : Value} {Q : Option Value → Shared → Prop} (hh : A.handled = none)
    (he : IsEnum st.heap e it j old) (hit : st.heap.IsTupleIter it l i) (hl : st.heap.IsTuple l items) (hx : items[i]? = none)
    (hQ : ∀ h', Heap.ExtBut it st.heap h' → Q none { st with heap := h' }) : wpAny (model prog w) A (pyNext (.ref e)) Q E st := by
  have hTy : st.TypeIs (.ref e) "enumerate" := ⟨_, he, rfl⟩
  unfold pyNext
  refine wpAny_bind (wpAny_attempt (wpAny_callSpecial?_slot (name := Str.ofString "__next__") hTy F.slot_enumerate_next (wpAny_call_entry F.slot_enumerate_next hTy F.entry_enumerate_next ?_ (F.args_enumerate_next_1 _))))
  show wpAny _ _ (field (.ref e) 2 >>= _) _ _ _
  refine wpAny_bind (wpAny_field he rfl (x := .ref it) rfl (wpAny_bind (wpAny_nextOf_tuple_end hh hit hl hx fun h' x he' ⟨o, ho, hc⟩ => ?_)))
  exact wpAny_bind (wpAny_isInstance (T := "StopIteration") (b := true) ⟨o, ho, hc⟩ isSubtype_stop (wpAny_pure (hQ _ he')))
end PySem
namespace DL
open PySem PySem.Spec PyProof.Rows L2
/-- the tuple at a, its items in new pairs -/
def IteT (K : PySem.W.Frag) (a : Addr) : It :=
  ⟨fun i H => ∃ (xs : List V) (x : V), SqT K H a xs ∧ xs[i]? = some x, fun i H v H' => ∃ T x, v = .ref T ∧ H T = none ∧ H' = upd H T (.tup [.int (i : Nat), x]) ∧ ∀ xs, SqT K H a xs → xs[i]? = some x, fun i H => ∃ xs : List V, SqT K H a xs ∧ xs.length ≤ i⟩
theorem enum_ne {h : Heap} {e it a : Addr} {i : Int} {old : Value} {items : Array Value} (he : IsEnum h e it i old) (ht : h.IsTuple a items) : e ≠ a := fun z => by
  obtain ⟨o, ho, hc, _⟩ := ht
  rw [← z] at ho
  have he' : h.get? e = some _ := he
  rw [he'] at ho
  rw [← Option.some.inj ho] at hc
  exact absurd (show Value.type "enumerate" = Value.type "tuple" from hc) (by decide)
theorem turn_enumT {P : Program} {w : World} {K : PySem.W.Frag} {elts : List Expr} {kk : Nat} {tpos : Pos} (a e it : Addr) :
    Turn P w K (.Tuple elts kk tpos) (IteT K a) [e, it] e (fun i h => (∃ old, IsEnum h e it ((i : Nat) : Int) old) ∧ h.IsTupleIter it a i ∧ e ≠ it ∧ a ≠ it) where
  mem := by simp
  obj := fun i h st b hb => by
    obtain ⟨⟨old, he⟩, ⟨o, ho, hc, hd⟩, _⟩ := st
    have e' : b = e ∨ b = it := by simpa using hb
    rcases e' with z | z
    · subst z; exact ⟨_, he, fun v q => nomatch q⟩
    · subst z; exact ⟨o, ho, fun v q => by rw [hd] at q; cases q⟩
  keep := fun i h h' st k => let ⟨⟨old, he⟩, hi, hne⟩ := st; ⟨⟨old, k e (by simp) _ he⟩, hi.at fun o q => k it (by simp) o q, hne⟩
  item := by
    intro X hP hw hK hc i pins st σ H E I hf hst hg
    subst hP hw hK
    obtain ⟨⟨old, he⟩, hit, hne, hne2⟩ := hst
    obtain ⟨xs, x, hq, hx⟩ := hg
    obtain ⟨its, rv, ht, hz⟩ := I.tuple hq
    obtain ⟨u, hu, ru⟩ := rv.get hx
    have hT : st.heap.IsTuple a its.toArray := ht
    have hel : e < st.heap.objs.size := Heap.lt_size he
    have hil : it < st.heap.objs.size := by obtain ⟨_, q, _⟩ := hit; exact Heap.lt_size q
    have hea : e ≠ a := enum_ne he hT
    have hi : i < its.toArray.size := by rw [List.size_toArray]; exact (List.getElem?_eq_some_iff.mp hu).1
    refine wpAny_pyNext_enum_itemD (Draws.tuple (A := X.A.in1) (I.ok.hd hc) it a hne2 its.toArray) he ⟨hit, hT⟩ hi hne (by simp [hne, hea]) fun y h' tk hy ho hst2 hT2 hsz hk => ?_
    have ey : y = u := by
      have z : its[i]? = some y := by simpa using hy
      rw [hu] at z; cases z; rfl
    subst ey
    refine ⟨_, rfl, wpAny_letOwnedTupleGo_enum (s := { st with heap := h', toks := tk + 1 }) ho fun h'' he' sb => ?_⟩
    have hT3 : h''.get? st.heap.objs.size = some { cls := .type "tuple", data := .seq #[.int i tk, y] } := (sb.2 _ (Nat.ne_of_gt hel)).trans hT2
    have new : ObjOk X.prog X.w (upd H st.heap.objs.size (.tup [.int (i : Nat), x])) h'' st.heap.objs.size (.tup [.int (i : Nat), x]) :=
      ⟨by show 2 ≤ sizeLine; decide, [.int i tk, y], .cons ⟨_, rfl⟩ (.cons ru .nil), ⟨_, hT3, rfl, _, rfl⟩⟩
    have I1 : Inv X pins σ (upd H st.heap.objs.size (.tup [.int (i : Nat), x])) { st with heap := h'', toks := tk + 1 } :=
      I.turnedNew (ch := [e, it]) (fun b ob hb q => (sb.2 b (fun z => hb (by simp [z]))).trans (hk b ob (fun z => hb (by simp [z])) (fun z => hb (by simp [z])) q)) hf (Nat.le_refl _) new
    refine ⟨.ref st.heap.objs.size, _, I1, rfl, ⟨_, x, rfl, I.hok.fresh (Nat.le_refl _), rfl, fun ys hy => by rw [I.tuple_inj hy hq]; exact hx⟩, ⟨⟨y, ?_⟩, hst2.1.at fun o q => (sb.2 it (Ne.symm hne)).trans q, hne, hne2⟩, fun b hb => ?_⟩
    · have e1 : ((i + 1 : Nat) : Int) = (i : Int) + 1 := by omega
      rw [e1]; exact he'
    · have hb' : b < st.heap.objs.size := by
        have e' : b = e ∨ b = it := by simpa using hb
        rcases e' with z | z
        · subst z; exact hel
        · subst z; exact hil
      rw [upd_ne (Nat.ne_of_lt hb')]
      exact (hf b hb).1
  done := by
    intro X hP hw hK hc i pins st σ H E I hf hst hg
    subst hP hw hK
    obtain ⟨⟨old, he⟩, hit, hne, hne2⟩ := hst
    obtain ⟨xs, hq, hx⟩ := hg
    obtain ⟨its, rv, ht, hz⟩ := I.tuple hq
    have hT : st.heap.IsTuple a its.toArray := ht
    obtain ⟨f0, f1, f2, f3, f4, f5⟩ := hf it (by simp)
    have hl := rv.length
    have hlt := hit
    refine enumT_end (I.ok.hd hc) he hit hT (by simp; omega) fun h' eb => ⟨rfl, I.turned (t' := st.toks) (fun b o hb q => eb b o hb q) f0 f1 f3 f4 f5⟩
  self := fun A i st Q E hst h => let ⟨⟨_, he⟩, _⟩ := hst; wpAny_pyIter_enum he h
def iEnumS (K : PySem.W.Frag) (ta : TA) : TI := fun σ H R => ta σ H fun vs H1 => ∃ a, vs = [.ref a] ∧ (((∃ xs, SqL K H1 a xs) ∧ R (Ite K a) H1) ∨ ((∃ xs, SqT K H1 a xs) ∧ R (IteT K a) H1))
theorem pi_enumS {X : Cx} {e : Expr} {ta : TA} {p pos tpos : Pos} {elts : List Expr} {kk : Nat} (hg : Gl X "enumerate") (hm : X.mg "enumerate" = none) (ha : PA X [e] ta) (hs : starEach [e] X.env = [(false, eval e X.env)]) :
    PI X (.Tuple elts kk tpos) (.Call (.Name "enumerate" p) [e] [] pos) (iEnumS X.K ta) := by
  refine ⟨fun pins st σ H R I h => ?_⟩
  refine Call_ (ld_blt I hg hm boot_enumerate (PyProof.Rows.callWith_type1 (thn (ha.run pos pins st σ H _ I h) fun us sA hA => ?_) hs rfl))
  obtain ⟨vs, HA, IA, rA, a, rfl, hB⟩ := hA
  rw [Vals.ref1 rA]
  have nw : ∀ b ∈ [sA.heap.objs.size + 1, sA.heap.objs.size], FpOk X pins HA b := fun b hb => by
    have hle : sA.heap.objs.size ≤ b := by
      have z : b = sA.heap.objs.size + 1 ∨ b = sA.heap.objs.size := by simpa using hb
      rcases z with z | z
      · subst z; exact Nat.le_add_right _ _
      · subst z; exact Nat.le_refl _
    exact IA.fpOk hle (IA.hok.fresh hle)
  rcases hB with ⟨⟨xs, hq⟩, q⟩ | ⟨⟨xs, hq⟩, q⟩
  · obtain ⟨its, rv, pl, _⟩ := IA.list hq
    refine enum1_call (begins_list a its.toArray) pl.isList fun h' he hit hk => wpAny_pyIter_enum he ?_
    exact ⟨sA.heap.objs.size + 1, _, _, _, HA, rfl, (IA.kept (t' := sA.toks) hk), turn_enum a _ sA.heap.objs.size, ⟨⟨.none, he⟩, ⟨_, hit, rfl, rfl⟩, Nat.succ_ne_self _⟩, nw, q⟩
  · obtain ⟨its, rv, pl, _⟩ := IA.tuple hq
    have hT : sA.heap.IsTuple a its.toArray := pl
    refine enum1_call (begins_tuple a its.toArray) hT fun h' he hit hk => wpAny_pyIter_enum he ?_
    exact ⟨sA.heap.objs.size + 1, _, _, _, HA, rfl, (IA.kept (t' := sA.toks) hk), turn_enumT a _ sA.heap.objs.size, ⟨⟨.none, he⟩, ⟨_, hit, rfl, rfl⟩, Nat.succ_ne_self _, Nat.ne_of_lt pl.lt⟩, nw, q⟩
def enumL (ds : List D) : List D := ds.mapIdx fun k d => .tup [.int (k : Nat), d]
def iwEnum (w : WA) : WI := fun ρ M E R => w ρ M E fun vs M1 => on1 vs fun d => match d with
  | .ref p => onO (lstC (M1 p)) fun ds => R (enumL ds) (fun M2 => M2 p = some (.lst ds)) M1
  | d => onO (asQ M1 d) fun ds => R (enumL ds) (fun _ => True) M1
section
variable {K : PySem.W.Frag} {F : Hp}
theorem it_enumT {a : Addr} {vs : List V} {ds : List D} {chk : Cells → Prop} (h : ∀ F2 H M, Same F F2 → StaC K F2 H M → chk M → SqT K H a vs ∧ Reps K F2 ds vs) : ItOk K F (IteT K a) (enumL ds) chk where
  go := fun F2 H M i e S c hi => by
    obtain ⟨h1, h2⟩ := h F2 H M e S c
    rw [enumL, List.length_mapIdx] at hi
    obtain ⟨v, hv, _⟩ := h2.get (List.getElem?_eq_getElem hi)
    exact ⟨vs, v, h1, hv⟩
  yld := fun F2 H σ ρ M i x H' e S c hy hi => by
    obtain ⟨h1, h2⟩ := h F2 H M e S.toStaC c
    obtain ⟨T, y, rfl, hT, rfl, hx⟩ := hy
    obtain ⟨d, hd, r⟩ := h2.getV (hx vs h1)
    have e2 := Same.new (o := .tup [.int (i : Nat), y]) (S.fn hT)
    exact ⟨_, .tup [.int (i : Nat), d], e2, S.frz hT _, by rw [enumL, mapIdx_get, hd]; rfl, T, _, rfl, SqT.of upd_same, Reps.cons rfl (Reps.cons (r.mono e2) Reps.nil)⟩
  stop := fun F2 H M i e S c hi => by
    obtain ⟨h1, h2⟩ := h F2 H M e S c
    rw [enumL, List.length_mapIdx] at hi
    exact ⟨vs, h1, by rw [← h2.len]; exact hi⟩
end
section
variable {X : Cx} {Ew : XK} {e : Expr} {w : WA} {p pos tpos : Pos} {elts : List Expr} {kk : Nat}
theorem di_enum (hm : X.mg "enumerate" = none) (ha : DA X Ew [e] w) (hg : Gl X "enumerate" := by rfl) (hs : starEach [e] X.env = [(false, eval e X.env)] := by rfl) : DI X Ew (.Tuple elts kk tpos) (.Call (.Name "enumerate" p) [e] [] pos) (iwEnum w) :=
  let ⟨_, pa, la⟩ := ha; ⟨_, pi_enumS hg hm pa hs, fun σ H F ρ M Ed Rd S E h R q => la σ H F ρ M Ed _ S E h _ fun vs H1 F1 ds M1 e1 S1 r1 h1 => by
    obtain ⟨d, rfl, h1⟩ := on1_ok h1
    obtain ⟨v, rfl, rv⟩ := reps1 r1
    cases d with
    | ref p =>
      obtain ⟨ds, e2, h2⟩ := h1
      cases (show v = _ from rv)
      have hm := lstC_ok e2
      obtain ⟨_, vs, hv, hr⟩ := S1.cell p _ hm
      refine ⟨p, rfl, .inl ⟨⟨vs, SqL.of hv⟩, q _ H1 F1 _ _ M1 e1 S1 ?_ h2⟩⟩
      refine ⟨fun F2 H2 M2 i e S2 c hi => ?_, fun F2 H2 σ2 ρ2 M2 i x H' e S2 c hy hi => ?_, fun F2 H2 M2 i e S2 c hi => ?_⟩
      · obtain ⟨_, ws, hw, hr2⟩ := S2.cell p _ c
        rw [enumL, List.length_mapIdx] at hi
        obtain ⟨v, hv2, _⟩ := hr2.get (List.getElem?_eq_getElem hi)
        exact ⟨ws, v, SqL.of hw, hv2⟩
      · obtain ⟨_, ws, hw, hr2⟩ := S2.cell p _ c
        obtain ⟨T, y, rfl, hT, rfl, hx⟩ := hy
        obtain ⟨d, hd, r⟩ := hr2.getV (hx ws (SqL.of hw))
        have e2 := Same.new (o := .tup [.int (i : Nat), y]) (S2.fn hT)
        exact ⟨_, .tup [.int (i : Nat), d], e2, S2.frz hT _, by rw [enumL, mapIdx_get, hd]; rfl, T, _, rfl, SqT.of upd_same, Reps.cons rfl (Reps.cons (r.mono e2) Reps.nil)⟩
      · obtain ⟨_, ws, hw, hr2⟩ := S2.cell p _ c
        rw [enumL, List.length_mapIdx] at hi
        exact ⟨ws, SqL.of hw, by rw [← hr2.len]; exact hi⟩
    | lst ds =>
      obtain ⟨ds', e2, h2⟩ := h1
      cases e2
      obtain ⟨a, vs, rfl, ha, hr⟩ := rv
      exact ⟨a, rfl, .inl ⟨⟨vs, SqL.of (S1.sub _ _ ha)⟩, q _ H1 F1 _ _ M1 e1 S1 (it_enum (a := a) (fun _ _ => rfl) (fun _ _ _ _ => rfl) (fun _ _ => rfl) fun F2 H2 M2 e S2 _ => ⟨SqL.of (S2.sub _ _ (e _ _ ha)), hr.mono e⟩) h2⟩⟩
    | ro ds =>
      obtain ⟨ds', e2, h2⟩ := h1
      cases e2
      obtain ⟨a, vs, rfl, ha, hr⟩ := rv
      exact ⟨a, rfl, .inl ⟨⟨vs, S1.sub.seq ha⟩, q _ H1 F1 _ _ M1 e1 S1 (it_enum (a := a) (fun _ _ => rfl) (fun _ _ _ _ => rfl) (fun _ _ => rfl) fun F2 H2 M2 e S2 _ => ⟨(e.trans S2.sub).seq ha, hr.mono e⟩) h2⟩⟩
    | tup ds =>
      obtain ⟨ds', e2, h2⟩ := h1
      cases e2
      obtain ⟨a, vs, rfl, ha, hr⟩ := rv
      exact ⟨a, rfl, .inr ⟨⟨vs, sameT S1.sub ha⟩, q _ H1 F1 _ _ M1 e1 S1 (it_enumT fun F2 H2 M2 e S2 _ => ⟨sameT (e.trans S2.sub) ha, hr.mono e⟩) h2⟩⟩
    | _ => obtain ⟨_, e2, _⟩ := h1; cases e2⟩
end

/-! ### raise -/
def sRaise (C : Addr) : WS := fun _ E _ M => E C M
section
variable {X : Cx} {Ew : XK} {C : Addr} {bmB : List Value} {B newId initId : String}
/-- X() -/
theorem pmk_own0 {x : Str} {p pos : Pos} (F : ExcBaseFacts B newId initId bmB) (q : PySem.W.excIn X.K C bmB newId = true) (gC : X.mg x = some (.ref C)) (kC : PySem.W.keepIn X.K (.ref C) = true) (r : Raises X (.ref C)) (hg : Gl X x)
    (hdb : (x == ("__debug__" : Str)) = false := by decide) : PMk X (.Call (.Name x p) [] [] pos) (fun _ H Q => Q (.ref C) none H) := by
  intro pins st σ H Q I h
  refine wpAny_Call_Name_kw (ld_glob I hg gC ?_ hdb)
  refine PySem.W.callWith_K0 I.kIn kC ?_
  obtain ⟨bm, N, nm, qn, bs, hdct, sn, sub, ab, col, dd, k0, k1, k2, k3, k5, mN, hC, hN, hni, T⟩ := exc_obj I.kIn q
  exact wpAny_call_exc_subT F T hC hN hni (fun h' e hm => mk_of I hm r h (I.hok.gone hm.new)) (by show 0 ≤ sizeLine; omega)
theorem ds_raise {x : Str} {p pos pos2 : Pos} (hc : X.calm = true) (tk : Takes X (fun cls d _ H => Ew cls d H)) (q : PySem.W.excIn X.K C He.veBase "ValueError.__new__" = true) (gC : X.mg x = some (.ref C)) (kC : PySem.W.keepIn X.K (.ref C) = true)
    (h1 : PySem.W.subIn X.K (.ref C) (.type "BaseException") = some true) (h2 : PySem.W.typeIn X.K (.ref C) = some (.type "type")) (hg : Gl X x := by rfl) (hdb : (x == ("__debug__" : Str)) = false := by decide) :
    DS X Ew (.Raise (some (.Call (.Name x p) [] [] pos)) none pos2) (sRaise C) :=
  ⟨_, ps_raise hc tk (pmk_own0 PySem.F.excBase_ValueError q gC kC (raises_own h1 h2) hg hdb), fun σ H F ρ M Ed Dd S E h D0 d => E C H F M (Same.refl F) S.toStaC h⟩
end
end DL

set_option Elab.async false
set_option linter.all false
set_option maxRecDepth 100000
set_option maxHeartbeats 4000000
namespace DL
open PySem PySem.Spec PyProof.Rows L2

/-! ### comprehensions by what each item gives -/
section
variable {p : Addr} {chk : Cells → Prop} {g : WG} {tt : WT} {te : WE} {ρ : Rho} {α : Type} {xs : List α} {f : α → D} {M0 : Cells}
theorem LcOk.typed {fin : List D → Cells → Prop} (I : List α → List D → Cells → Prop) (hz : xs.length ≤ sizeLine) (h0 : I [] [] (up M0 p (.lst []))) (hl : ∀ pre acc M, I pre acc M → chk M ∧ M p = some (.lst acc) ∧ acc.length ≤ pre.length)
    (hs : ∀ pre x post acc M, xs = pre ++ x :: post → I pre acc M → g (f x) ρ M (fun _ _ => False) fun ρ2 M2 => tt ρ2 M2 (fun _ _ => False) fun b M3 =>
      cnd b (te ρ2 M3 (fun _ _ => False) fun y M4 => M4 p = some (.lst acc) ∧ I (pre ++ [x]) (acc ++ [y]) (up M4 p (.lst (acc ++ [y])))) (I (pre ++ [x]) acc M3))
    (hd : ∀ acc M, I xs acc M → fin acc M) : LcOk p chk g tt te ρ fin (xs.map f) (up M0 p (.lst [])) :=
  ⟨fun i => I (xs.take i), by simpa using h0, fun i acc M hi hw => by
    rw [List.length_map] at hi
    obtain ⟨h1, h2, h3⟩ := hl _ _ _ hw
    refine ⟨h1, h2, fun d e => ?_, fun e => ?_⟩
    · rw [List.getElem?_map] at e
      obtain ⟨x, hx, rfl⟩ := Option.map_eq_some_iff.mp e
      have z : xs = xs.take i ++ x :: xs.drop (i + 1) := by rw [← get_drop hx, List.take_append_drop]
      have z2 : xs.take (i + 1) = xs.take i ++ [x] := by rw [List.take_succ, hx]; rfl
      have r := hs (xs.take i) x (xs.drop (i + 1)) acc M z hw
      rw [← z2] at r
      refine ⟨?_, r⟩
      have hlt := (List.getElem?_eq_some_iff.mp hx).1
      rw [List.length_take] at h3
      omega
    · rw [List.length_map] at e
      rw [e, List.take_length] at hw
      exact hd acc M hw⟩
theorem LcOk.fmap {fin : List D → Cells → Prop} (st : α → Option D) (hp : M0 p = none) (hc : ∀ c, chk (up M0 p c)) (hz : xs.length ≤ sizeLine)
    (hs : ∀ x, x ∈ xs → ∀ (c : D) (Qy : D → Cells → Prop) (Qn : Cells → Prop), (∀ y, st x = some y → Qy y (up M0 p c)) → (st x = none → Qn (up M0 p c)) →
      g (f x) ρ (up M0 p c) (fun _ _ => False) fun ρ2 M2 => tt ρ2 M2 (fun _ _ => False) fun b M3 => cnd b (te ρ2 M3 (fun _ _ => False) Qy) (Qn M3))
    (hq : fin (xs.filterMap st) (up M0 p (.lst (xs.filterMap st)))) : LcOk p chk g tt te ρ fin (xs.map f) (up M0 p (.lst [])) := by
  refine LcOk.typed (fun pre acc M => acc = pre.filterMap st ∧ M = up M0 p (.lst acc)) hz ⟨rfl, rfl⟩ (fun pre acc M h => ?_) (fun pre x post acc M e h => ?_) (fun acc M h => ?_)
  · obtain ⟨rfl, rfl⟩ := h
    exact ⟨hc _, up_same, List.length_filterMap_le _ _⟩
  · obtain ⟨rfl, rfl⟩ := h
    refine hs x (by rw [e]; simp) _ _ _ (fun y hy => ⟨up_same, ?_, ?_⟩) (fun hn => ⟨?_, ?_⟩)
    · simp [List.filterMap_append, hy]
    · rw [up_up]
    · simp [List.filterMap_append, hn]
    · rfl
  · obtain ⟨rfl, rfl⟩ := h
    exact hq
theorem LcOk.map {fin : List D → Cells → Prop} (h : α → D) (hp : M0 p = none) (hc : ∀ c, chk (up M0 p c)) (hz : xs.length ≤ sizeLine)
    (hs : ∀ x, x ∈ xs → ∀ (c : D) (Qy : D → Cells → Prop), Qy (h x) (up M0 p c) →
      g (f x) ρ (up M0 p c) (fun _ _ => False) fun ρ2 M2 => te ρ2 M2 (fun _ _ => False) Qy)
    (hq : fin (xs.map h) (up M0 p (.lst (xs.map h)))) : LcOk p chk g wYes te ρ fin (xs.map f) (up M0 p (.lst [])) :=
  LcOk.fmap (fun x => some (h x)) hp hc hz (fun x hx c Qy Qn h1 h2 => hs x hx c Qy (h1 _ rfl)) (by rw [show (fun x => some (h x)) = some ∘ h from rfl, List.filterMap_eq_map]; exact hq)
theorem le_over (hp : M0 p = none) {d : D} : Le M0 (up M0 p d) := (Le.refl M0).over hp
/-- .. where what is there stays, and more may come -/
theorem LcOk.fmapL {fin : List D → Cells → Prop} (st : α → Option D) (hp : M0 p = none) (hc : ∀ M, Le M0 M → chk M) (hz : xs.length ≤ sizeLine)
    (hs : ∀ x, x ∈ xs → ∀ (M : Cells) (Qy : D → Cells → Prop) (Qn : Cells → Prop), Le M0 M → (∀ y M', st x = some y → Le M M' → Qy y M') → (∀ M', st x = none → Le M M' → Qn M') →
      g (f x) ρ M (fun _ _ => False) fun ρ2 M2 => tt ρ2 M2 (fun _ _ => False) fun b M3 => cnd b (te ρ2 M3 (fun _ _ => False) Qy) (Qn M3))
    (hq : ∀ M', Le M0 M' → M' p = some (.lst (xs.filterMap st)) → fin (xs.filterMap st) M') : LcOk p chk g tt te ρ fin (xs.map f) (up M0 p (.lst [])) := by
  refine LcOk.typed (fun pre acc M => acc = pre.filterMap st ∧ Le (up M0 p (.lst acc)) M) hz ⟨rfl, Le.refl _⟩ (fun pre acc M h => ?_) (fun pre x post acc M e h => ?_) (fun acc M h => ?_)
  · obtain ⟨rfl, l⟩ := h
    exact ⟨hc _ (((Le.refl M0).over hp).trans l), l _ _ up_same, List.length_filterMap_le _ _⟩
  · obtain ⟨rfl, l⟩ := h
    refine hs x (by rw [e]; simp) _ _ _ (((Le.refl M0).over hp).trans l) (fun y M' hy l2 => ⟨(l.trans l2) _ _ up_same, ?_, ?_⟩) (fun M' hn l2 => ⟨?_, ?_⟩)
    · simp [List.filterMap_append, hy]
    · have := (l.trans l2).up (p := p) (c := .lst (pre.filterMap st ++ [y]))
      rw [up_up] at this
      exact this
    · simp [List.filterMap_append, hn]
    · exact l.trans l2
  · obtain ⟨rfl, l⟩ := h
    exact hq _ (((Le.refl M0).over hp).trans l) (l _ _ up_same)
theorem LcOk.mapL {fin : List D → Cells → Prop} (h : α → D) (hp : M0 p = none) (hc : ∀ M, Le M0 M → chk M) (hz : xs.length ≤ sizeLine)
    (hs : ∀ x, x ∈ xs → ∀ (M : Cells) (Qy : D → Cells → Prop), Le M0 M → (∀ M', Le M M' → Qy (h x) M') →
      g (f x) ρ M (fun _ _ => False) fun ρ2 M2 => te ρ2 M2 (fun _ _ => False) Qy)
    (hq : ∀ M', Le M0 M' → M' p = some (.lst (xs.map h)) → fin (xs.map h) M') : LcOk p chk g wYes te ρ fin (xs.map f) (up M0 p (.lst [])) := by
  have e : xs.filterMap (fun x => some (h x)) = xs.map h := by rw [show (fun x => some (h x)) = some ∘ h from rfl, List.filterMap_eq_map]
  exact LcOk.fmapL (fun x => some (h x)) hp hc hz (fun x hx M Qy Qn l h1 h2 => hs x hx M Qy l fun M' l2 => h1 _ M' rfl l2) (by rw [e]; exact hq)
theorem enumL_map {β : Type} {ys : List β} {k : β → D} : enumL (ys.map k) = ys.zipIdx.map fun q => .tup [.int (q.2 : Nat), k q.1] := by
  unfold enumL
  apply List.ext_getElem?
  intro i
  simp [List.getElem?_mapIdx, List.getElem?_zipIdx]
  cases ys[i]? <;> simp
end
theorem lenE (n : Nat) (h : n ≤ 1000000) : n ≤ sizeLine := Nat.le_trans h (by decide)
theorem ltE (n : Nat) (h : n < 1000000) : n < sizeLine := Nat.lt_of_lt_of_le h (by decide)

/-! ### stepping -/
theorem szL {n : Nat} (h : n ≤ 1000000) : n ≤ sizeLine := lenE n h
end DL

set_option Elab.async false
set_option linter.all false
set_option maxRecDepth 100000
set_option maxHeartbeats 4000000
namespace DL
open PySem PySem.Spec PyProof.Rows L2
theorem eqD_int (i j : Int) : eqD (.int i) (.int j) = decide (i = j) := by
  show (i == j) = _
  by_cases h : i = j <;> simp [h]
theorem r65 {k : Nat} {A : Around} (r : Room k A) : A.units + 65 < cLine := by have := r.un; omega
theorem shps_map {α : Type} {n : Nat} {f : α → D} (h : ∀ x, Shp n (f x)) : ∀ xs : List α, Shps n (xs.map f)
  | [] => trivial
  | x :: xs => ⟨h x, shps_map h xs⟩
theorem shp_int {n : Nat} (i : Int) : Shp n (.int i) := by cases n <;> trivial
theorem shp_bl {n : Nat} (i : Bool) : Shp n (.bl i) := by cases n <;> trivial
theorem shp_non {n : Nat} : Shp n .non := by cases n <;> trivial
theorem shpT_ints {n : Nat} (ns : List Int) : Shp (n + 1) (.tup (ns.map D.int)) := shps_map (fun i => shp_int i) ns
theorem shpL_ints {n : Nat} (ns : List Int) : Shp (n + 1) (.lst (ns.map D.int)) := shps_map (fun i => shp_int i) ns
theorem shp_gate {n : Nat} {d : D} (h : Shp n d) : Shp n d := h
theorem shps_gate {n : Nat} {ds : List D} (h : Shps n ds) : Shps n ds := h
theorem shpL {n : Nat} {ds : List D} (h : Shps n ds) : Shp (n + 1) (.lst ds) := h
theorem shpT {n : Nat} {ds : List D} (h : Shps n ds) : Shp (n + 1) (.tup ds) := h
theorem shps_nil {n : Nat} : Shps n [] := trivial
theorem shps_cons {n : Nat} {d : D} {ds : List D} (h : Shp n d) (h2 : Shps n ds) : Shps n (d :: ds) := ⟨h, h2⟩
theorem shp_str {n : Nat} {z : Str} (h : PyData.strOk z = true) : Shp n (.str z) := by cases n <;> exact h
theorem ne_self (d : D) : (!eqD d d) = false := by rw [eqD_refl]; rfl
theorem eqvs_ints : ∀ (a b : List Int), PyData.eqvAll (toPys (a.map D.int)) (toPys (b.map D.int)) = decide (a = b)
  | [], [] => rfl
  | [], _ :: _ => rfl
  | _ :: _, [] => rfl
  | x :: a, y :: b => by
    show (eqD (.int x) (.int y) && PyData.eqvAll (toPys (a.map D.int)) (toPys (b.map D.int))) = _
    rw [eqvs_ints a b, eqD_int]
    by_cases h : x = y <;> by_cases h2 : a = b <;> simp [h, h2]
theorem eqD_tI (a b : List Int) : eqD (.tup (a.map D.int)) (.tup (b.map D.int)) = decide (a = b) := eqvs_ints a b
theorem eqD_lI (a b : List Int) : eqD (.lst (a.map D.int)) (.lst (b.map D.int)) = decide (a = b) := eqvs_ints a b
theorem any_ints (i : Int) : ∀ ns : List Int, ((ns.map D.int).any fun z => eqD z (.int i)) = decide (i ∈ ns)
  | [] => rfl
  | n :: ns => by
    rw [List.map_cons, List.any_cons, any_ints i ns, eqD_int]
    by_cases h : n = i <;> by_cases h2 : i ∈ ns <;> simp [h, h2, eq_comm]
    all_goals (intro z; exact h z.symm)
theorem fm_if {α β : Type} (c : α → Bool) (f : α → β) : ∀ xs : List α, (xs.filterMap fun x => if c x then some (f x) else none) = (xs.filter c).map f
  | [] => rfl
  | x :: xs => by
    rw [List.filterMap_cons, List.filter_cons, fm_if c f xs]
    cases c x <;> simp
theorem atI_map1 {α : Type} {xs : List α} {f : α → D} {i : Int} {k : Nat} {x : α} (e : i = k) (h : xs[k]? = some x) : atI (xs.map f) i = some (f x) := by
  subst e
  have hl := (List.getElem?_eq_some_iff.mp h).1
  unfold atI ixN
  rw [if_pos (by omega), if_pos (by rw [List.length_map]; omega)]
  show (xs.map f)[k]? = _
  rw [List.getElem?_map, h]; rfl
theorem atI_ints {ns : List Int} {i : Int} {k : Nat} (e : i = k) (h : k < ns.length) : atI (ns.map D.int) i = some (.int (ns.getD k 0)) := by
  rw [atI_map1 e (List.getElem?_eq_getElem h)]
  simp [List.getD_eq_getElem?_getD, h]
theorem gl_1 {i : Nat} : ∀ ds ρ M E R, gwCons (gwName i) gwNil ds ρ M E R → ds.length = 1 := fun ds ρ M E R h => by
  cases ds with
  | nil => exact h.elim
  | cons d ds => exact congrArg Nat.succ (gl_nil ds _ _ E _ h)
theorem gl_2 {i j : Nat} : ∀ ds ρ M E R, gwCons (gwName i) (gwCons (gwName j) gwNil) ds ρ M E R → ds.length = 2 := fun ds ρ M E R h => by
  cases ds with
  | nil => exact h.elim
  | cons d ds => exact congrArg Nat.succ (gl_1 ds _ _ E _ h)
theorem gl_3 {i j k : Nat} : ∀ ds ρ M E R, gwCons (gwName i) (gwCons (gwName j) (gwCons (gwName k) gwNil)) ds ρ M E R → ds.length = 3 := fun ds ρ M E R h => by
  cases ds with
  | nil => exact h.elim
  | cons d ds => exact congrArg Nat.succ (gl_2 ds _ _ E _ h)
/-! ### in -/
def fIn (x y : D) (M : Cells) (Q : DK) : Prop := Shp 60 (dres M x) ∧ Shp 60 (dres M y) ∧ ∃ ds, dres M y = .lst ds ∧ Q (.bl (ds.any fun z => eqD z (dres M x))) M
def fNotIn (x y : D) (M : Cells) (Q : DK) : Prop := Shp 60 (dres M x) ∧ Shp 60 (dres M y) ∧ ∃ ds, dres M y = .lst ds ∧ Q (.bl (!ds.any fun z => eqD z (dres M x))) M
theorem toPys_any {ds : List D} {x : PyData} : ((toPys ds).any fun z => PyData.eqv z x) = ds.any fun z => PyData.eqv (toPy z) x := by
  induction ds with
  | nil => rfl
  | cons d ds ih => show (PyData.eqv (toPy d) x || (toPys ds).any _) = _; rw [ih]; rfl
section
variable {K : PySem.W.Frag}
theorem lr_inIn : LR K (rInD K) fIn := fun σ H F ρ M Qd x y dx dy S rx ry h Q q => by
  obtain ⟨h1, h2, ds, e, h3⟩ := h
  have hy := dp_res S.toStaC ry h2
  have sy := shaped_of h2
  rw [e] at hy sy
  refine ⟨_, toPys ds, dp_res S.toStaC rx h1, hy, shaped_of h1, sy, q.here S h3 ?_⟩
  show V.bl _ = V.bl _
  rw [toPys_any]; rfl
theorem lr_notIn : LR K (rNotInD K) fNotIn := fun σ H F ρ M Qd x y dx dy S rx ry h Q q => by
  obtain ⟨h1, h2, ds, e, h3⟩ := h
  have hy := dp_res S.toStaC ry h2
  have sy := shaped_of h2
  rw [e] at hy sy
  refine ⟨_, toPys ds, dp_res S.toStaC rx h1, hy, shaped_of h1, sy, q.here S h3 ?_⟩
  show V.bl _ = V.bl _
  rw [toPys_any]; rfl
end
section
variable {X : Cx}
/-! ### repr, int of a text -/
def rRepr1 (v : V) (H : Hp) (Q : VK) : Prop := match v with
  | .int i => i.natAbs.log2 < 1920 ∧ Q (.str (toString i)) H
  | .bl b => Q (.str (if b then "True" else "False")) H
  | .non => Q (.str "None") H
  | _ => False
theorem call_reprD : CallR X (.builtin "repr") (fun xs H Q => ∃ v, xs = [v] ∧ rRepr1 v H Q) := by
  intro pins s σ H xs us Q I r h
  obtain ⟨i, rfl, q⟩ := h
  obtain ⟨u, rfl, t⟩ := vals1 r
  cases i with
  | int i => obtain ⟨t, rfl⟩ := t; exact PySem.P.repr_of_int q.1 ⟨.str _, H, I.tok _, ⟨_, rfl⟩, q.2⟩
  | bl b => obtain rfl := t; exact PySem.P.repr_of_bool ⟨.str _, H, I.tok _, ⟨_, rfl⟩, q⟩
  | non => obtain rfl := t; exact PySem.P.repr_of_none ⟨.str _, H, I.tok _, ⟨_, rfl⟩, q⟩
  | _ => exact q.elim
def fRepr (d : D) (M : Cells) (Q : DK) : Prop := match d with
  | .int i => i.natAbs.log2 < 1920 ∧ Q (.str (toString i)) M
  | .bl b => Q (.str (if b then "True" else "False")) M
  | .non => Q (.str "None") M
  | _ => False
theorem lu_repr {K : PySem.W.Frag} : LU K (fun v H Q => ∃ u, [v] = [u] ∧ rRepr1 u H Q) fRepr := fun σ H F ρ M Qd x dx S rx h Q q => by
  cases dx with
  | int i => cases (show x = _ from rx); exact ⟨_, rfl, h.1, q.here S h.2 rfl⟩
  | bl i => cases (show x = _ from rx); exact ⟨_, rfl, q.here S h rfl⟩
  | non => cases (show x = _ from rx); exact ⟨_, rfl, q.here S h rfl⟩
  | _ => exact h.elim
def rIntA (v : V) (H : Hp) (Q : VK) : Prop := match v with
  | .int i => Q (.int i) H
  | .bl k => Q (.int (if k then 1 else 0)) H
  | .str a => ∃ n, PySem.intText? a = some n ∧ a.length ≤ 640 ∧ Q (.int n) H
  | _ => False
theorem call_intA : CallR X (.type "int") (fun xs H Q => ∃ v, xs = [v] ∧ rIntA v H Q) := by
  intro pins s σ H xs us Q I r h
  obtain ⟨i, rfl, q⟩ := h
  cases i with
  | int i => exact call_int1 pins s σ H _ us Q I r (.inl ⟨i, rfl, q⟩)
  | bl k => exact call_int1 pins s σ H _ us Q I r (.inr ⟨k, rfl, q⟩)
  | str a => obtain ⟨n, h1, h2, h3⟩ := q; exact call_int_str pins s σ H _ us Q I r ⟨a, n, rfl, h1, h2, h3⟩
  | _ => exact q.elim
def fIntA (d : D) (M : Cells) (Q : DK) : Prop := match d with
  | .int i => Q (.int i) M
  | .bl k => Q (.int (if k then 1 else 0)) M
  | .str a => onO (PySem.intText? a) fun n => a.length ≤ 640 ∧ Q (.int n) M
  | _ => False
theorem lu_intA {K : PySem.W.Frag} : LU K (fun v H Q => ∃ u, [v] = [u] ∧ rIntA u H Q) fIntA := fun σ H F ρ M Qd x dx S rx h Q q => by
  cases dx with
  | int i => cases (show x = _ from rx); exact ⟨_, rfl, q.here S h rfl⟩
  | bl k => cases (show x = _ from rx); exact ⟨_, rfl, q.here S h rfl⟩
  | str a => cases (show x = _ from rx); obtain ⟨n, h1, h2, h3⟩ := h; exact ⟨_, rfl, n, h1, h2, q.here S h3 rfl⟩
  | _ => exact h.elim
end
end DL

set_option Elab.async false
set_option linter.all false
set_option maxRecDepth 100000
set_option maxHeartbeats 4000000
namespace DL
open PySem PySem.Spec PyProof.Rows L2
/-! ### the end -/
theorem fn_cx {P : Program} {w : World} {K : PySem.W.Frag} {mg : Str → Option Value} {base : Heap} {CX CX' : CXT} {k : Nat} {f : Addr} {fd : FuncData} {ps : List Str} {sp : Sp} (F : FnOk P w K mg base CX k f fd ps sp)
    (h : ∀ outer H s E e s', CX outer H s E e s' → CX' outer H s E e s') : FnOk P w K mg base CX' k f fd ps sp :=
  ⟨F.len, fun A outer s H args us vs Q E hr he hb hv hs => codeAny_mono (F.run A outer s H args us vs Q E hr he hb hv hs) fun r s' hq => by
    cases r with
    | error e => exact h _ _ _ _ _ _ hq
    | ok fl =>
      cases fl with
      | ret u => exact hq
      | next => exact hq.elim
      | brk => exact hq.elim
      | cont => exact hq.elim⟩
/-- an exception behind a call, whatever the world -/
def CXu (P : Program) : CXT := fun outer H s E e s' => ∃ w, L2.CX P w outer H s E e s'
theorem cxu_none {P : Program} (H : Hp) (s : Shared) (e : Value) (s' : Shared) (h : CXu P [] H s (fun _ _ _ => False) e s') : False := by
  obtain ⟨w, a, B, H', cls, d, _, _, _, _, _, _, _, z⟩ := h
  exact z
theorem law_start {K : PySem.W.Frag} {φ : Phi} {H : Hp} {a : Addr} {ns : List Int} (hS : SqL K H a (ns.map V.int)) (hφ : φ [.ro (ns.map D.int)] (fun _ => none) (fun _ _ => False) (fun d _ => d = .bl true)) :
    SpF K 1 φ [.ref a] H (fun v _ => v = .bl true) (fun _ _ _ => False) :=
  ⟨rfl, H, [.ro (ns.map D.int)], fun _ => none, fun _ _ => False, fun d _ => d = .bl true, ⟨Same.refl H, (fun p c e => by cases e)⟩, ⟨_, _, rfl, ⟨a, _, rfl, hS, reps_ints ns⟩, rfl⟩, hφ, eok_false, fun v H' F' d M' _ _ r q => by
    subst q
    exact r⟩
end DL

set_option Elab.async false
set_option linter.all false
set_option maxRecDepth 100000
set_option maxHeartbeats 4000000
namespace DL
open PySem PySem.Spec PyProof.Rows L2
/-! ### the hand: what a law draws from -/
local macro_rules | `(tactic| walk_at "g") => `(tactic| (conv => whnf))
local macro_rules | `(tactic| walk_at "lk") => `(tactic| (first | rfl | assumption | (simp only [asQ, asL, up_same, *]; rfl)))
local macro_rules | `(tactic| walk_at "sd") => `(tactic| ((try dsimp only); first | with_reducible rfl | assumption | exact True.intro | omega | (refine lenE _ ?_; exact Nat.le_of_ble_eq_true rfl) | (refine lenE _ ?_; omega) | decide | exact Or.inl ⟨by omega, by omega⟩ | exact Or.inr ⟨by decide, by decide⟩ | exact ⟨by decide, by decide⟩ | exact ⟨by omega, by omega⟩ | exact ⟨by decide, by decide, by decide⟩))
local macro_rules | `(tactic| walk_at "r") => `(tactic| ((conv => whnf); repeat' (first | (refine And.intro (by walk_at "sd") ?_; conv => whnf) | (refine Exists.intro _ (And.intro (by walk_at "lk") ?_); conv => whnf))))
local macro_rules | `(tactic| walk_at "br") => `(tactic| (refine cnd_i (fun hb => ?_) (fun hb => ?_)))

structure HandC (c : D) : Prop where
  ex : ∃ (cells : List Int) (a1 a2 a3 a4 : Int), c = .lst [.lst (cells.map D.int), .int a1, .int a2, .int a3, .int a4] ∧ 0 ≤ a1 ∧ 0 ≤ a2 ∧ (∀ x ∈ cells, 0 ≤ x) ∧ cells.length ≤ 63
def HandAt (M : Cells) (h : Addr) : Prop := ∃ c, M h = some c ∧ HandC c
def ph_draw (_ : Str → Addr) : Phi := P2 fun a b M E Q => onRef a fun h => onI b fun n => HandAt M h ∧ (0 < n ∧ n < 1073741824) ∧ ∀ k c, 0 ≤ k → k < n → HandC c → Q (.int k) (up M h c)
def ph_any (_ : Str → Addr) : Phi := P2 fun a b M E Q => onRef a fun h => HandAt M h ∧ onO (asQ M b) fun ds => (∀ c, asQ (up M h c) b = some ds) ∧ (0 < ds.length ∧ ds.length < 1000000) ∧ ∀ d c, d ∈ ds → HandC c → Q d (up M h c)
def ph_hand (_ : Str → Addr) : Phi := P1 fun a M E Q => ∃ ns : List Int, a = .ro (ns.map D.int) ∧ ns.length ≤ 63 ∧ ∀ p c, M p = none → HandC c → Q (.ref p) (up M p c)
def w_draw : WS :=
  (sSeq (sIf (wAnd (wB (wOp fEq (wOp fIx (wVar 0) (wC (.int 2))) (wC (.int 0)))) (wB (wOp (fCmp fun i j => decide (i < j)) (wOp fIx (wVar 0) (wC (.int 1))) (wCall (fun ds M Q => on1 ds fun d => fLen d M Q) (wCons (wOp fIx (wVar 0) (wC (.int 0))) wNil))))) (sSeq (sAsg (wOp fIx (wOp fIx (wVar 0) (wC (.int 0))) (wOp fIx (wVar 0) (wC (.int 1)))) (gwName 2))
      (sSeq (sAsg (wOp fAdd (wOp fIx (wVar 0) (wC (.int 1))) (wC (.int 1))) (gwSub (wVar 0) (wC (.int 1)) fSetL))
      (sSeq (sAsg (wOp (fII (fun _ j => 0 < j) fun i j => i % j) (wCall (fun ds M Q => on1 ds fun d => fInt d M Q) (wCons (wOp fAdd (wOp fAdd (wOp fMul (wOp fIx (wVar 0) (wC (.int 3))) (wC (.int 69621))) (wOp fMul (wVar 2) (wC (.int 40692)))) (wC (.int 37))) wNil)) (wC (.int 2147483629))) (gwSub (wVar 0) (wC (.int 3)) fSetL))
      (sIf (wB (wOp (fCmp fun i j => decide (j ≤ i)) (wVar 2) (wOp (fII CPow fun i j => i ^ j.toNat) (wC (.int 10)) (wC (.int 18))))) (sAsg (wVar 2) (gwSub (wVar 0) (wC (.int 2)) fSetL)) sNext)))) sNext)
      (sSeq (sIf (wB (wOp (fCmp fun i j => decide (j < i)) (wOp fIx (wVar 0) (wC (.int 2))) (wC (.int 0)))) (sSeq (sAsg (wOp (fII (fun _ j => 0 < j) fun i j => i % j) (wCall (fun ds M Q => on1 ds fun d => fInt d M Q) (wCons (wOp fIx (wVar 0) (wC (.int 2))) wNil)) (wVar 1)) (gwName 3))
      (sSeq (sAsg (wOp (fII CDiv fun i j => i / j) (wOp fIx (wVar 0) (wC (.int 2))) (wVar 1)) (gwSub (wVar 0) (wC (.int 2)) fSetL))
      (sRet (wVar 3)))) sNext)
      (sSeq (sAsg (wOp fAdd (wOp fIx (wVar 0) (wC (.int 4))) (wC (.int 1))) (gwSub (wVar 0) (wC (.int 4)) fSetL))
      (sSeq (sAsg (wOp (fII (fun _ j => 0 < j) fun i j => i % j) (wCall (fun ds M Q => on1 ds fun d => fInt d M Q) (wCons (wOp fMul (wCall (fun ds M Q => on1 ds fun d => fInt d M Q) (wCons (wOp fAdd (wOp fIx (wVar 0) (wC (.int 3))) (wOp fMul (wC (.int 7919)) (wOp fIx (wVar 0) (wC (.int 4))))) wNil)) (wC (.int 48271))) wNil)) (wC (.int 2147483647))) (gwName 4))
      (sSeq (sAsg (wOp (fII (fun _ j => 0 < j) fun i j => i % j) (wCall (fun ds M Q => on1 ds fun d => fInt d M Q) (wCons (wOp fMul (wVar 4) (wOp fAdd (wOp (fII CDiv fun i j => i / j) (wVar 4) (wC (.int 1009))) (wC (.int 69621)))) wNil)) (wC (.int 2147483647))) (gwName 4))
      (sSeq (sAsg (wOp (fII (fun _ j => 0 < j) fun i j => i % j) (wCall (fun ds M Q => on1 ds fun d => fInt d M Q) (wCons (wOp fMul (wVar 4) (wOp fAdd (wOp (fII CDiv fun i j => i / j) (wVar 4) (wC (.int 2003))) (wC (.int 40014)))) wNil)) (wC (.int 2147483563))) (gwName 4))
      (sRet (wOp (fII (fun _ j => 0 < j) fun i j => i % j) (wCall (fun ds M Q => on1 ds fun d => fInt d M Q) (wCons (wOp (fII CDiv fun i j => i / j) (wVar 4) (wC (.int 16))) wNil)) (wVar 1)))))))))
theorem atI_nn {α : Type} {xs : List α} {i : Int} (h0 : 0 ≤ i) (h1 : i < xs.length) : ∃ x, atI xs i = some x ∧ x ∈ xs := by
  unfold atI ixN
  rw [if_pos h0, if_pos h1]
  have : i.toNat < xs.length := by omega
  exact ⟨xs[i.toNat], by simp [this], List.getElem_mem this⟩
theorem HandC.mk' {cells : List Int} {a1 a2 a3 a4 : Int} (p1 : 0 ≤ a1) (p2 : 0 ≤ a2) (p3 : ∀ x ∈ cells, 0 ≤ x) (p4 : cells.length ≤ 63) : HandC (.lst [.lst (cells.map D.int), .int a1, .int a2, .int a3, .int a4]) := ⟨_, _, _, _, _, rfl, p1, p2, p3, p4⟩
theorem vc_draw (N : List Str) (hN : N.length = 5) (xc) : Ok N (ph_draw xc) w_draw := ok2 fun a b M Ed Qd h => by
  obtain ⟨h0, rfl, h1⟩ := onRef_ok h
  obtain ⟨n, rfl, ⟨c, hM, ⟨cells, a1, a2, a3, a4, rfl, p1, p2, p3, p4⟩⟩, ⟨hn0, hn1⟩, hq⟩ := onI_ok h1
  obtain ⟨s1, s2, s3, s4, s5, rfl⟩ : ∃ s1 s2 s3 s4 s5, N = [s1, s2, s3, s4, s5] := by
    match N, hN with
    | [s1, s2, s3, s4, s5], _ => exact ⟨_, _, _, _, _, rfl⟩
  have fin : ∀ (k b1 b2 b3 b4 : Int), 0 ≤ k → k < n → 0 ≤ b1 → 0 ≤ b2 → Qd (.int k) (up M h0 (.lst [.lst (cells.map D.int), .int b1, .int b2, .int b3, .int b4])) := fun k b1 b2 b3 b4 h1 h2 h3 h4 => hq _ _ h1 h2 (HandC.mk' h3 h4 p3 p4)
  clear h h1 hq
  have m0 : ∀ x : Int, 0 ≤ x % n := fun x => Int.emod_nonneg _ (by omega)
  have m1 : ∀ x : Int, x % n < n := fun x => Int.emod_lt_of_pos _ hn0
  have d0 : ∀ x : Int, 0 ≤ x → 0 ≤ x / n := fun x h => Int.ediv_nonneg h (by omega)
  walk_at "r"
  walk_at "br"
  · rename_i hb
    walk_at "r"
    walk_at "br"
    · rename_i hb2
      have hb3 : a1 < (cells.map D.int).length := by simpa using hb2
      obtain ⟨d, hd, hm⟩ := atI_nn p1 hb3
      obtain ⟨cell, hc, rfl⟩ := List.mem_map.mp hm
      have hc0 := p3 _ hc
      clear hm
      walk_at "r"
      walk_at "br"
      · walk_at "r"
        walk_at "br"
        · walk_at "r"
          refine QLe.i ?_
          simp only [up_up]
          exact fin _ _ _ _ _ (m0 _) (m1 _) (by omega) (d0 _ hc0)
        · walk_at "r"
          refine QLe.i ?_
          simp only [up_up]
          exact fin _ _ _ _ _ (m0 _) (m1 _) (by omega) hc0
      · walk_at "r"
        walk_at "br"
        · walk_at "r"
          refine QLe.i ?_
          simp only [up_up]
          exact fin _ _ _ _ _ (m0 _) (m1 _) (by omega) (d0 _ p2)
        · walk_at "r"
          refine QLe.i ?_
          simp only [up_up]
          exact fin _ _ _ _ _ (m0 _) (m1 _) (by omega) p2
    · walk_at "r"
      walk_at "br"
      · walk_at "r"
        refine QLe.i ?_
        simp only [up_up]
        exact fin _ _ _ _ _ (m0 _) (m1 _) p1 (d0 _ p2)
      · walk_at "r"
        refine QLe.i ?_
        simp only [up_up]
        exact fin _ _ _ _ _ (m0 _) (m1 _) p1 p2
  · walk_at "r"
    walk_at "br"
    · walk_at "r"
      refine QLe.i ?_
      simp only [up_up]
      exact fin _ _ _ _ _ (m0 _) (m1 _) p1 (d0 _ p2)
    · walk_at "r"
      refine QLe.i ?_
      simp only [up_up]
      exact fin _ _ _ _ _ (m0 _) (m1 _) p1 p2
def w_any (xc : Str → Addr) : WS :=
  (sRet (wOp fIx (wVar 1) (wDef (ph_draw xc) (wCons (wVar 0) (wCons (wCall (fun ds M Q => on1 ds fun d => fLen d M Q) (wCons (wVar 1) wNil)) wNil)))))
theorem len_of_asQ {d : D} {M : Cells} {ds : List D} {Q : DK} (h : asQ M d = some ds) (hq : Q (.int (ds.length : Nat)) M) : fLen d M Q := by
  cases d <;> first | exact ⟨_, h, hq⟩ | cases h
theorem ix_of_asQ {d : D} {M : Cells} {ds : List D} {k : Int} {e : D} {Q : DK} (h : asQ M d = some ds) (he : atI ds k = some e) (hq : Q e M) : fIx d (.int k) M Q := by
  cases d <;> first | exact ⟨_, h, _, he, hq⟩ | cases h
theorem vc_any (N : List Str) (hN : N.length = 2) (xc) : Ok N (ph_any xc) (w_any xc) := ok2 fun a b M Ed Qd h => by
  obtain ⟨h0, rfl, hH, ds, e1, e2, ⟨e3, e4⟩, e5⟩ := onRef_ok h
  obtain ⟨s1, s2, rfl⟩ : ∃ s1 s2, N = [s1, s2] := by
    match N, hN with
    | [s1, s2], _ => exact ⟨_, _, rfl⟩
  cases b <;> first | (cases e1; done) | skip
  all_goals
    (conv => whnf)
    refine ⟨_, e1, ?_⟩
    (conv => whnf)
    refine ⟨hH, ⟨by omega, by omega⟩, fun k c hk0 hk1 hc => ?_⟩
    obtain ⟨d, hd, hm⟩ := atI_nn hk0 hk1
    exact ix_of_asQ (e2 c) hd (QLe.i (e5 d c hm hc))
def w_hand (s : Int) : WS :=
  (sSeq (sAsg (wLc (iwSeq (wSl (wVar 0) wNoPart (wPart (wC (.int 63))))) (gwName 2) wYes (wOp (fII (fun _ j => 0 < j) fun i j => i % j) (wCall (fun ds M Q => on1 ds fun d => fInt d M Q) (wCons (wCall (fun ds M Q => on1 ds fun d => fAbs d M Q) (wCons (wCall (fun ds M Q => on1 ds fun d => fInt d M Q) (wCons (wVar 2) wNil)) wNil)) wNil)) (wOp (fII CPow fun i j => i ^ j.toNat) (wC (.int 10)) (wC (.int 36)))) [2]) (gwName 1))
      (sRet (wLstC (wCons (wVar 1) (wCons (wC (.int 0)) (wCons (wC (.int 0)) (wCons (wOp fAdd (wC (.int s)) (wOp fMul (wC (.int 5)) (wCall (fun ds M Q => on1 ds fun d => fLen d M Q) (wCons (wVar 1) wNil)))) (wCons (wC (.int 0)) wNil))))))))
theorem vc_hand (N : List Str) (hN : N.length = 3) (s : Int) (xc) : Ok N (ph_hand xc) (w_hand s) := ok1 fun a M Ed Qd h => by
  obtain ⟨ns, rfl, hl, hq⟩ := h
  obtain ⟨s1, s2, s3, rfl⟩ : ∃ s1 s2 s3, N = [s1, s2, s3] := by
    match N, hN with
    | [s1, s2, s3], _ => exact ⟨_, _, _, rfl⟩
  conv => whnf
  intro p hp
  have e : cutD (ns.map D.int) none (some 63) = (cutD ns none (some 63)).map D.int := by
    unfold cutD
    simp [List.map_take, List.map_drop]
  have el : (cutD ns none (some 63)).length ≤ 63 := by
    unfold cutD
    simp
    omega
  rw [e]
  refine LcOk.map (xs := cutD ns none (some 63)) (f := D.int) (fun n : Int => .int ((if n < 0 then -n else n) % 10 ^ 36)) hp (fun _ => by trivial) (lenE _ (by omega)) (fun n hn c Qy hy => ?_) ?_
  · walk_at "r"
    exact hy
  · refine ⟨M, le_over hp, hp, ?_⟩
    walk_at "r"
    intro q hm
    refine QLe.i (hq _ _ hm ?_)
    have := HandC.mk' (cells := (cutD ns none (some 63)).map fun n : Int => (if n < 0 then -n else n) % 10 ^ 36) (a1 := 0) (a2 := 0) (a3 := s + 5 * ((cutD ns none (some 63)).length : Nat)) (a4 := 0) (by decide) (by decide) (fun x hx => by
      obtain ⟨n, _, rfl⟩ := List.mem_map.mp hx
      exact Int.emod_nonneg _ (by decide)) (by simpa using el)
    simpa [List.map_map, Function.comp_def] using this
end DL

set_option Elab.async false
set_option linter.all false
set_option maxRecDepth 100000
set_option maxHeartbeats 4000000
namespace K66
open PySem PySem.Spec PyProof.Rows L2 DL
abbrev Deed := Int × Option Int
def tDeed : Deed → D
  | (m, some p) => .tup [.str "in", .int m, .int p]
  | (m, none) => .tup [.str "out", .int m]
abbrev tS (s : List Deed) : D := .tup (s.map tDeed)
def sg : Deed → Int
  | (m, some _) => m
  | (m, none) => -m
def OkD (d : Deed) : Prop := 1 ≤ d.1 ∧ d.1 ≤ 999 ∧ ∀ p, d.2 = some p → 0 ≤ p ∧ p ≤ 999
def tot (s : List Deed) : Int := (s.map sg).sum
structure OkS (s : List Deed) : Prop where
  len : s.length ≤ 40
  okd : ∀ d ∈ s, OkD d
  nn : ∀ pre post, s = pre ++ post → 0 ≤ tot pre
abbrev Lay := Int × Int
abbrev tLay (q : Lay) : D := .tup [.int q.1, .int q.2]
abbrev tL (l : List Lay) : List D := l.map tLay
def OkL (l : List Lay) : Prop := ∀ q ∈ l, 0 < q.1 ∧ q.1 ≤ 999 ∧ 0 ≤ q.2 ∧ q.2 ≤ 999
def am (l : List Lay) : Int := (l.map Prod.fst).sum
def worth (l : List Lay) : Int := (l.map fun q => q.1 * q.2).sum
def takF : List Lay → Int → List Lay × Int
  | [], _ => ([], 0)
  | q :: r, m => if m ≤ 0 then (q :: r, 0) else if q.1 ≤ m then ((takF r (m - q.1)).1, q.1 * q.2 + (takF r (m - q.1)).2) else ((q.1 - m, q.2) :: r, m * q.2)
def step (a : List Lay × Int) (d : Deed) : List Lay × Int := match d with
  | (m, some p) => (a.1 ++ [(m, p)], a.2)
  | (m, none) => ((takF a.1 m).1, a.2 + (takF a.1 m).2)
def goF (s : List Deed) : List Lay × Int := s.foldl step ([], 0)
def mstep (a : Int × Int) (d : Deed) : Int × Int := (max a.1 (a.2 + sg d), a.2 + sg d)
def mostP (s : List Deed) : Int × Int := s.foldl mstep (0, 0)
def came (s : List Deed) : Int := (s.map fun d => match d with | (m, some p) => m * p | _ => 0).sum
theorem am_nn {l : List Lay} (h : OkL l) : 0 ≤ am l := by
  induction l with
  | nil => decide
  | cons q r ih =>
    have h1 := h q List.mem_cons_self
    have h2 := ih fun x hx => h x (List.mem_cons_of_mem _ hx)
    simp only [am, List.map_cons, List.sum_cons] at h2 ⊢
    omega
theorem takF_0 {l : List Lay} {m : Int} (h : m ≤ 0) : takF l m = (l, 0) := by
  cases l with
  | nil => rfl
  | cons q r => simp [takF, h]
theorem takF_ok : ∀ (l : List Lay) (m : Int), OkL l → 0 ≤ m → m ≤ am l → OkL (takF l m).1 ∧ am (takF l m).1 = am l - m ∧ worth (takF l m).1 + (takF l m).2 = worth l ∧ (takF l m).1.length ≤ l.length
  | [], m, h, h0, h1 => by
    simp only [am, List.map_nil, List.sum_nil] at h1
    obtain rfl : m = 0 := by omega
    exact ⟨h, rfl, rfl, Nat.le_refl _⟩
  | q :: r, m, h, h0, h1 => by
    have hq := h q List.mem_cons_self
    have hr : OkL r := fun x hx => h x (List.mem_cons_of_mem _ hx)
    unfold takF
    by_cases z : m ≤ 0
    · rw [if_pos z]
      refine ⟨h, ?_, by simp, Nat.le_refl _⟩
      show am (q :: r) = am (q :: r) - m
      omega
    · rw [if_neg z]
      have ea : am (q :: r) = q.1 + am r := by simp [am]
      have ew : worth (q :: r) = q.1 * q.2 + worth r := by simp [worth]
      by_cases y : q.1 ≤ m
      · rw [if_pos y]
        obtain ⟨a1, a2, a3, a4⟩ := takF_ok r (m - q.1) hr (by omega) (by omega)
        exact ⟨a1, by rw [a2, ea]; omega, by show worth (takF r (m - q.1)).1 + (q.1 * q.2 + (takF r (m - q.1)).2) = _; rw [ew, ← a3]; omega, Nat.le_trans a4 (Nat.le_succ _)⟩
      · rw [if_neg y]
        refine ⟨fun x hx => ?_, ?_, ?_, Nat.le_refl _⟩
        · rcases List.mem_cons.mp hx with rfl | hx
          · exact ⟨by show 0 < q.1 - m; omega, by show q.1 - m ≤ 999; omega, hq.2.2⟩
          · exact hr x hx
        · simp only [am, List.map_cons, List.sum_cons]; omega
        · simp only [worth, List.map_cons, List.sum_cons]
          have : (q.1 - m) * q.2 = q.1 * q.2 - m * q.2 := by rw [Int.sub_mul]
          omega
theorem takF_all (l : List Lay) (h : OkL l) : takF l (am l) = ([], worth l) := by
  obtain ⟨a1, a2, a3, _⟩ := takF_ok l (am l) h (am_nn h) (Int.le_refl _)
  have e : (takF l (am l)).1 = [] := by
    generalize (takF l (am l)).1 = t at *
    cases t with
    | nil => rfl
    | cons q r =>
      have hq := a1 q List.mem_cons_self
      have hr := am_nn (l := r) fun x hx => a1 x (List.mem_cons_of_mem _ hx)
      simp only [am, List.map_cons, List.sum_cons] at a2 hr
      omega
  rw [e] at a3
  simp only [worth, List.map_nil, List.sum_nil] at a3
  refine Prod.ext e ?_
  show (takF l (am l)).2 = worth l
  simp only [worth]
  omega
theorem goF_app (s : List Deed) (d : Deed) : goF (s ++ [d]) = step (goF s) d := by simp [goF]
theorem mostP_app (s : List Deed) (d : Deed) : mostP (s ++ [d]) = mstep (mostP s) d := by simp [mostP]
theorem tot_app (s : List Deed) (d : Deed) : tot (s ++ [d]) = tot s + sg d := by simp [tot]
theorem came_app (s : List Deed) (d : Deed) : came (s ++ [d]) = came s + (match d with | (m, some p) => m * p | _ => 0) := by simp [came]
theorem OkS.pre {s pre post : List Deed} (h : OkS s) (e : s = pre ++ post) : OkS pre :=
  ⟨by have := h.len; rw [e, List.length_append] at this; omega, fun d hd => h.okd d (by rw [e]; exact List.mem_append_left _ hd), fun p q eq => h.nn p (q ++ post) (by rw [e, eq, List.append_assoc])⟩
theorem OkS.tot {s : List Deed} (h : OkS s) : 0 ≤ K66.tot s := h.nn s [] (by simp)
theorem OkS.snoc {s : List Deed} {d : Deed} (h : OkS s) (hl : s.length < 40) (hd : OkD d) (ht : 0 ≤ K66.tot (s ++ [d])) : OkS (s ++ [d]) := by
  refine ⟨by simp; omega, fun x hx => ?_, fun p q e => ?_⟩
  · rcases List.mem_append.mp hx with z | z
    · exact h.okd x z
    · rw [List.mem_singleton.mp z]; exact hd
  · rcases List.eq_nil_or_concat q with rfl | ⟨q', y, rfl⟩
    · rw [List.append_nil] at e
      rw [← e]; exact ht
    · rw [List.concat_eq_append, ← List.append_assoc] at e
      have := List.append_inj' e rfl
      exact h.nn p q' this.1
theorem snoc_ind {α : Type} {P : List α → Prop} (h0 : P []) (h1 : ∀ s d, P s → P (s ++ [d])) (s : List α) : P s := by
  rw [← s.reverse_reverse]
  induction s.reverse with
  | nil => exact h0
  | cons d t ih => rw [List.reverse_cons]; exact h1 _ _ ih
theorem go_ok {s : List Deed} (h : OkS s) : OkL (goF s).1 ∧ am (goF s).1 = tot s ∧ worth (goF s).1 + (goF s).2 = came s ∧ (goF s).1.length ≤ s.length ∧ (mostP s).2 = tot s ∧ 0 ≤ (mostP s).1 := by
  revert h
  refine snoc_ind (P := fun s => OkS s → OkL (goF s).1 ∧ am (goF s).1 = tot s ∧ worth (goF s).1 + (goF s).2 = came s ∧ (goF s).1.length ≤ s.length ∧ (mostP s).2 = tot s ∧ 0 ≤ (mostP s).1) ?_ ?_ s
  · exact fun _ => ⟨(fun q hq => by cases hq), rfl, rfl, Nat.le_refl _, rfl, Int.le_refl _⟩
  · intro s d ih h
    obtain ⟨a1, a2, a3, a4, a5, a6⟩ := ih (h.pre rfl)
    have hd := h.okd d (by simp)
    have ht := h.tot
    rw [tot_app] at ht
    rw [goF_app, mostP_app, tot_app, came_app]
    obtain ⟨m, p⟩ := d
    have hlen : (s ++ [(m, p)]).length = s.length + 1 := by simp
    rw [hlen]
    have b6 : 0 ≤ (mstep (mostP s) (m, p)).1 := by show 0 ≤ max (mostP s).1 _; omega
    have b5 : (mstep (mostP s) (m, p)).2 = tot s + sg (m, p) := by show (mostP s).2 + sg (m, p) = _; rw [a5]
    cases p with
    | some p =>
      have hp := hd.2.2 p rfl
      have h1 := hd.1
      have h2 := hd.2.1
      refine ⟨fun q hq => ?_, ?_, ?_, ?_, b5, b6⟩
      · rcases List.mem_append.mp hq with z | z
        · exact a1 q z
        · rw [List.mem_singleton.mp z]; exact ⟨by show 0 < m; simp at h1; omega, h2, hp⟩
      · show am ((goF s).1 ++ [(m, p)]) = _
        simp only [am, List.map_append, List.map_cons, List.map_nil, List.sum_append, List.sum_cons, List.sum_nil] at a2 ⊢
        rw [a2]; simp [sg]
      · show worth ((goF s).1 ++ [(m, p)]) + (goF s).2 = _
        simp only [worth, List.map_append, List.map_cons, List.map_nil, List.sum_append, List.sum_cons, List.sum_nil] at a3 ⊢
        omega
      · show ((goF s).1 ++ [(m, p)]).length ≤ _
        simp; omega
    | none =>
      have h1 : 1 ≤ m := hd.1
      simp only [sg] at ht
      obtain ⟨c1, c2, c3, c4⟩ := takF_ok (goF s).1 m a1 (by omega) (by omega)
      refine ⟨c1, ?_, ?_, ?_, b5, b6⟩
      · show am (takF (goF s).1 m).1 = _
        rw [c2, a2]; simp [sg]; omega
      · show worth (takF (goF s).1 m).1 + ((goF s).2 + (takF (goF s).1 m).2) = _
        simp only [Int.add_zero]
        omega
      · exact Nat.le_succ_of_le (Nat.le_trans c4 a4)
/-! ### promises -/
abbrev onS (a : D) (f : List Deed → Prop) : Prop := ∃ s, a = tS s ∧ OkS s ∧ f s
def ph_is_integer (_ : Str → Addr) : Phi := P1 fun a M E Q => onI a fun i => Q (.bl true) M
def ph_is_within (_ : Str → Addr) : Phi := P3 fun a lo hi M E Q => onI lo fun i => onI hi fun j => onI a fun n => Q (.bl (decide (i ≤ n) && decide (n ≤ j))) M
def ph_is_deed (_ : Str → Addr) : Phi := P1 fun a M E Q => ∃ d, a = tDeed d ∧ OkD d ∧ Q (.bl true) M
def ph_check_stock (_ : Str → Addr) : Phi := P1 fun a M E Q => onS a fun _ => Q .non M
def ph_taken (_ : Str → Addr) : Phi := P3 fun a b c M E Q => ∃ l, asQ M a = some (tL l) ∧ OkL l ∧ l.length ≤ 1000 ∧ onI b fun m => (0 ≤ m ∧ m ≤ am l ∧ c = .int 0) ∧ ∀ p, M p = none → Q (.tup [.ref p, .int (takF l m).2]) (up M p (.lst (tL (takF l m).1)))
def ph_gone_through (_ : Str → Addr) : Phi := P2 fun a b M E Q => onS a fun s => b = .int 0 ∧ ∀ M' p, Le M M' → M' p = some (.lst (tL (goF s).1)) → Q (.tup [.ref p, .int (goF s).2]) M'
def ph_there (_ : Str → Addr) : Phi := P1 fun a M E Q => onS a fun s => Q (.int (am (goF s).1)) M
def ph_cost_out (_ : Str → Addr) : Phi := P1 fun a M E Q => onS a fun s => Q (.int (goF s).2) M
def ph_worth_there (_ : Str → Addr) : Phi := P1 fun a M E Q => onS a fun s => Q (.int (worth (goF s).1)) M
def ph_layers (_ : Str → Addr) : Phi := P1 fun a M E Q => onS a fun s => Q (.tup (tL (goF s).1)) M
def ph_most_there (_ : Str → Addr) : Phi := P1 fun a M E Q => onS a fun s => Q (.int (mostP s).1) M
abbrev ph__law_hand := ph_hand
abbrev ph__law_draw := ph_draw
abbrev ph__law_any := ph_any
def ph__law_stock (_ : Str → Addr) : Phi := P1 fun a M E Q => onRef a fun h => HandAt M h ∧ ∀ s c, OkS s → s.length ≤ 20 → HandC c → Q (tS s) (up M h c)
def ph__law_pieces (_ : Str → Addr) : Phi := P1 fun a M E Q => onS a fun s => ∀ M' g gs, Le M M' → M' g = some (.lst (tL gs)) → worth gs = (goF s).2 → (∀ q ∈ gs, 0 ≤ q.2 ∧ q.2 ≤ 999) → gs.length ≤ 2000 →
  Q (.tup [.lst (tL (goF s).1), .ref g, .int (mostP s).1]) M'
def ph__law_cost (_ : Str → Addr) : Phi := P1 fun a M E Q => ∃ l : List Lay, (∀ c p, M p = none → asQ (up M p c) a = some (tL l)) ∧ asQ M a = some (tL l) ∧ (∀ q ∈ l, 0 ≤ q.2 ∧ q.2 ≤ 999) ∧ l.length ≤ 2000 ∧ Q (.int (worth l)) M
def ph__law_stock_right (_ : Str → Addr) : Phi := P2 fun a b M E Q => onRef a fun h => HandAt M h ∧ onS b fun s => s.length ≤ 20 ∧ ∀ c, HandC c → Q (.bl true) (up M h c)
def ph_law (_ : Str → Addr) : Phi := P1 fun a M E Q => ∃ ns : List Int, a = .ro (ns.map D.int) ∧ ns.length ≤ 63 ∧ Q (.bl true) M
end K66

set_option Elab.async false
set_option linter.all false
set_option maxRecDepth 100000
set_option maxHeartbeats 4000000
namespace K66
open PySem PySem.Spec PyProof.Rows L2 DL

def w_is_integer (xc : Str → Addr) : WS :=
  (sRet (wAndV (wCall (fun ds M Q => on2 ds fun d e => fIsi d e M Q) (wCons (wVar 0) (wCons (wC (.ty .int)) wNil))) (wNotV (wCall (fun ds M Q => on2 ds fun d e => fIsi d e M Q) (wCons (wVar 0) (wCons (wC (.ty .bool)) wNil))))))
def N_is_integer : List Str := ["thing"]
def w_is_within (xc : Str → Addr) : WS :=
  (sRet (wAndV (wDef (ph_is_integer xc) (wCons (wVar 0) wNil)) (wChain (fCmp fun i j => decide (i ≤ j)) (fCmp fun i j => decide (i ≤ j)) (wVar 1) (wVar 0) (wVar 2))))
def N_is_within : List Str := ["thing", "low", "high"]
def w_is_deed (xc : Str → Addr) : WS :=
  (sSeq (sIf (wOr (wNot (wB (wCall (fun ds M Q => on2 ds fun d e => fIsi d e M Q) (wCons (wVar 0) (wCons (wC (.ty .tuple)) wNil))))) (wOr (wB (wOp (fCmp fun i j => decide (i < j)) (wCall (fun ds M Q => on1 ds fun d => fLen d M Q) (wCons (wVar 0) wNil)) (wC (.int 2)))) (wNot (wB (wCall (fun ds M Q => on2 ds fun d e => fIsi d e M Q) (wCons (wOp fIx (wVar 0) (wC (.int 0))) (wCons (wC (.ty .str)) wNil))))))) (sRet (wC (.bl false))) sNext)
      (sSeq (sIf (wNot (wB (wDef (ph_is_within xc) (wCons (wOp fIx (wVar 0) (wC (.int 1))) (wCons (wC (.int 1)) (wCons (wC (.int 999)) wNil)))))) (sRet (wC (.bl false))) sNext)
      (sSeq (sIf (wB (wOp fEq (wOp fIx (wVar 0) (wC (.int 0))) (wC (.str "in")))) (sRet (wAndV (wOp fEq (wCall (fun ds M Q => on1 ds fun d => fLen d M Q) (wCons (wVar 0) wNil)) (wC (.int 3))) (wDef (ph_is_within xc) (wCons (wOp fIx (wVar 0) (wC (.int 2))) (wCons (wC (.int 0)) (wCons (wC (.int 999)) wNil)))))) sNext)
      (sRet (wAndV (wOp fEq (wOp fIx (wVar 0) (wC (.int 0))) (wC (.str "out"))) (wOp fEq (wCall (fun ds M Q => on1 ds fun d => fLen d M Q) (wCons (wVar 0) wNil)) (wC (.int 2))))))))
def N_is_deed : List Str := ["thing"]
def w_check_stock (xc : Str → Addr) : WS :=
  (sSeq (sIf (wOr (wNot (wB (wCall (fun ds M Q => on2 ds fun d e => fIsi d e M Q) (wCons (wVar 0) (wCons (wC (.ty .tuple)) wNil))))) (wOr (wB (wOp (fCmp fun i j => decide (j < i)) (wCall (fun ds M Q => on1 ds fun d => fLen d M Q) (wCons (wVar 0) wNil)) (wC (.int 40)))) (wNot (wB (wCall (fun ds M Q => on1 ds fun d => fAll d M Q) (wCons (wLc (iwSeq (wVar 0)) (gwName 3) wYes (wDef (ph_is_deed xc) (wCons (wVar 3) wNil)) [3]) wNil)))))) sNever sNext)
      (sSeq (sAsg (wC (.int 0)) (gwName 1))
      (sFor (iwEnum (wCons (wVar 0) wNil)) (gwTup (gwCons (gwName 2) (gwCons (gwName 3) gwNil))) (sSeq (sAsg (wOp fAdd (wVar 1) (wIfE (wB (wOp fEq (wOp fIx (wVar 3) (wC (.int 0))) (wC (.str "in")))) (wOp fIx (wVar 3) (wC (.int 1))) (wOp fSub (wC (.int 0)) (wOp fIx (wVar 3) (wC (.int 1)))))) (gwName 1))
      (sIf (wB (wOp (fCmp fun i j => decide (i < j)) (wVar 1) (wC (.int 0)))) sNever sNext)))))
def N_check_stock : List Str := ["stock", "many", "at", "deed"]
def w_taken (xc : Str → Addr) : WS :=
  (sSeq (sPar 3 4 (wCons (wCall (fun ds M Q => on1 ds fun d => fListC d M Q) (wCons (wVar 0) wNil)) (wCons (wC (.int 0)) wNil)))
      (sSeq (sWhile (wB (wOp (fCmp fun i j => decide (j < i)) (wVar 1) (wC (.int 0)))) (sSeq (sAsg (wOp fIx (wVar 3) (wVar 2)) (gwTup (gwCons (gwName 5) (gwCons (gwName 6) gwNil))))
      (sSeq (sAsg (wCall (fun ds M Q => on2 ds fun d e => fMin2 d e M Q) (wCons (wVar 1) (wCons (wVar 5) wNil))) (gwName 7))
      (sSeq (sPar 4 1 (wCons (wOp fAdd (wVar 4) (wOp fMul (wVar 7) (wVar 6))) (wCons (wOp fSub (wVar 1) (wVar 7)) wNil)))
      (sIf (wB (wOp fEq (wVar 7) (wVar 5))) (sDrop (wM "list" fPopAt (wVar 3) (wCons (wVar 2) wNil))) (sAsg (wTup (wCons (wOp fSub (wVar 5) (wVar 7)) (wCons (wVar 6) wNil))) (gwSub (wVar 3) (wVar 2) fSetL)))))))
      (sRet (wTup (wCons (wVar 3) (wCons (wVar 4) wNil))))))
def N_taken : List Str := ["layers_told", "many", "spot", "left", "cost", "have", "price", "some"]
def w_gone_through (xc : Str → Addr) : WS :=
  (sSeq (sPar 2 3 (wCons (wLstC wNil) (wCons (wC (.int 0)) wNil)))
      (sSeq (sFor (iwSeq (wVar 0)) (gwName 4) (sIf (wB (wOp fEq (wOp fIx (wVar 4) (wC (.int 0))) (wC (.str "in")))) (sDrop (wM "list" fApp (wVar 2) (wCons (wTup (wCons (wOp fIx (wVar 4) (wC (.int 1))) (wCons (wOp fIx (wVar 4) (wC (.int 2))) wNil))) wNil))) (sSeq (sAsg (wDef (ph_taken xc) (wCons (wVar 2) (wCons (wOp fIx (wVar 4) (wC (.int 1))) (wCons (wVar 1) wNil)))) (gwTup (gwCons (gwName 2) (gwCons (gwName 5) gwNil))))
      (sAsg (wOp fAdd (wVar 3) (wVar 5)) (gwName 3)))))
      (sRet (wTup (wCons (wVar 2) (wCons (wVar 3) wNil))))))
def N_gone_through : List Str := ["stock", "spot", "left", "cost", "deed", "more"]
def w_there (xc : Str → Addr) : WS :=
  (sSeq (sDrop (wDef (ph_check_stock xc) (wCons (wVar 0) wNil)))
      (sRet (wCall (fun ds M Q => on1 ds fun d => fSum d M Q) (wCons (wLc (iwSeq (wOp fIx (wDef (ph_gone_through xc) (wCons (wVar 0) (wCons (wC (.int 0)) wNil))) (wC (.int 0)))) (gwTup (gwCons (gwName 1) (gwCons (gwName 2) gwNil))) wYes (wVar 1) [1, 2]) wNil))))
def N_there : List Str := ["stock", "many", "price"]
def w_cost_out (xc : Str → Addr) : WS :=
  (sSeq (sDrop (wDef (ph_check_stock xc) (wCons (wVar 0) wNil)))
      (sRet (wOp fIx (wDef (ph_gone_through xc) (wCons (wVar 0) (wCons (wC (.int 0)) wNil))) (wC (.int 1)))))
def N_cost_out : List Str := ["stock"]
def w_worth_there (xc : Str → Addr) : WS :=
  (sSeq (sDrop (wDef (ph_check_stock xc) (wCons (wVar 0) wNil)))
      (sRet (wCall (fun ds M Q => on1 ds fun d => fSum d M Q) (wCons (wLc (iwSeq (wOp fIx (wDef (ph_gone_through xc) (wCons (wVar 0) (wCons (wC (.int 0)) wNil))) (wC (.int 0)))) (gwTup (gwCons (gwName 1) (gwCons (gwName 2) gwNil))) wYes (wOp fMul (wVar 1) (wVar 2)) [1, 2]) wNil))))
def N_worth_there : List Str := ["stock", "many", "price"]
def w_layers (xc : Str → Addr) : WS :=
  (sSeq (sDrop (wDef (ph_check_stock xc) (wCons (wVar 0) wNil)))
      (sRet (wCall (fun ds M Q => on1 ds fun d => fTuple d M Q) (wCons (wOp fIx (wDef (ph_gone_through xc) (wCons (wVar 0) (wCons (wC (.int 0)) wNil))) (wC (.int 0))) wNil))))
def N_layers : List Str := ["stock"]
def w_most_there (xc : Str → Addr) : WS :=
  (sSeq (sDrop (wDef (ph_check_stock xc) (wCons (wVar 0) wNil)))
      (sSeq (sAsg (wTup (wCons (wC (.int 0)) (wCons (wC (.int 0)) wNil))) (gwTup (gwCons (gwName 1) (gwCons (gwName 2) gwNil))))
      (sSeq (sFor (iwSeq (wVar 0)) (gwName 3) (sSeq (sAsg (wOp fAdd (wVar 2) (wIfE (wB (wOp fEq (wOp fIx (wVar 3) (wC (.int 0))) (wC (.str "in")))) (wOp fIx (wVar 3) (wC (.int 1))) (wOp fSub (wC (.int 0)) (wOp fIx (wVar 3) (wC (.int 1)))))) (gwName 2))
      (sAsg (wCall (fun ds M Q => on2 ds fun d e => fMax2 d e M Q) (wCons (wVar 1) (wCons (wVar 2) wNil))) (gwName 1))))
      (sRet (wVar 1)))))
def N_most_there : List Str := ["stock", "best", "many", "deed"]
def w__law_hand (xc : Str → Addr) : WS :=
  (sSeq (sAsg (wLc (iwSeq (wSl (wVar 0) wNoPart (wPart (wC (.int 63))))) (gwName 2) wYes (wOp (fII (fun _ j => 0 < j) fun i j => i % j) (wCall (fun ds M Q => on1 ds fun d => fInt d M Q) (wCons (wCall (fun ds M Q => on1 ds fun d => fAbs d M Q) (wCons (wCall (fun ds M Q => on1 ds fun d => fInt d M Q) (wCons (wVar 2) wNil)) wNil)) wNil)) (wOp (fII CPow fun i j => i ^ j.toNat) (wC (.int 10)) (wC (.int 36)))) [2]) (gwName 1))
      (sRet (wLstC (wCons (wVar 1) (wCons (wC (.int 0)) (wCons (wC (.int 0)) (wCons (wOp fAdd (wC (.int 2027)) (wOp fMul (wC (.int 5)) (wCall (fun ds M Q => on1 ds fun d => fLen d M Q) (wCons (wVar 1) wNil)))) (wCons (wC (.int 0)) wNil))))))))
def N__law_hand : List Str := ["script", "cells", "cell"]
def w__law_draw (xc : Str → Addr) : WS :=
  (sSeq (sIf (wAnd (wB (wOp fEq (wOp fIx (wVar 0) (wC (.int 2))) (wC (.int 0)))) (wB (wOp (fCmp fun i j => decide (i < j)) (wOp fIx (wVar 0) (wC (.int 1))) (wCall (fun ds M Q => on1 ds fun d => fLen d M Q) (wCons (wOp fIx (wVar 0) (wC (.int 0))) wNil))))) (sSeq (sAsg (wOp fIx (wOp fIx (wVar 0) (wC (.int 0))) (wOp fIx (wVar 0) (wC (.int 1)))) (gwName 2))
      (sSeq (sAsg (wOp fAdd (wOp fIx (wVar 0) (wC (.int 1))) (wC (.int 1))) (gwSub (wVar 0) (wC (.int 1)) fSetL))
      (sSeq (sAsg (wOp (fII (fun _ j => 0 < j) fun i j => i % j) (wCall (fun ds M Q => on1 ds fun d => fInt d M Q) (wCons (wOp fAdd (wOp fAdd (wOp fMul (wOp fIx (wVar 0) (wC (.int 3))) (wC (.int 69621))) (wOp fMul (wVar 2) (wC (.int 40692)))) (wC (.int 37))) wNil)) (wC (.int 2147483629))) (gwSub (wVar 0) (wC (.int 3)) fSetL))
      (sIf (wB (wOp (fCmp fun i j => decide (j ≤ i)) (wVar 2) (wOp (fII CPow fun i j => i ^ j.toNat) (wC (.int 10)) (wC (.int 18))))) (sAsg (wVar 2) (gwSub (wVar 0) (wC (.int 2)) fSetL)) sNext)))) sNext)
      (sSeq (sIf (wB (wOp (fCmp fun i j => decide (j < i)) (wOp fIx (wVar 0) (wC (.int 2))) (wC (.int 0)))) (sSeq (sAsg (wOp (fII (fun _ j => 0 < j) fun i j => i % j) (wCall (fun ds M Q => on1 ds fun d => fInt d M Q) (wCons (wOp fIx (wVar 0) (wC (.int 2))) wNil)) (wVar 1)) (gwName 3))
      (sSeq (sAsg (wOp (fII CDiv fun i j => i / j) (wOp fIx (wVar 0) (wC (.int 2))) (wVar 1)) (gwSub (wVar 0) (wC (.int 2)) fSetL))
      (sRet (wVar 3)))) sNext)
      (sSeq (sAsg (wOp fAdd (wOp fIx (wVar 0) (wC (.int 4))) (wC (.int 1))) (gwSub (wVar 0) (wC (.int 4)) fSetL))
      (sSeq (sAsg (wOp (fII (fun _ j => 0 < j) fun i j => i % j) (wCall (fun ds M Q => on1 ds fun d => fInt d M Q) (wCons (wOp fMul (wCall (fun ds M Q => on1 ds fun d => fInt d M Q) (wCons (wOp fAdd (wOp fIx (wVar 0) (wC (.int 3))) (wOp fMul (wC (.int 7919)) (wOp fIx (wVar 0) (wC (.int 4))))) wNil)) (wC (.int 48271))) wNil)) (wC (.int 2147483647))) (gwName 4))
      (sSeq (sAsg (wOp (fII (fun _ j => 0 < j) fun i j => i % j) (wCall (fun ds M Q => on1 ds fun d => fInt d M Q) (wCons (wOp fMul (wVar 4) (wOp fAdd (wOp (fII CDiv fun i j => i / j) (wVar 4) (wC (.int 1009))) (wC (.int 69621)))) wNil)) (wC (.int 2147483647))) (gwName 4))
      (sSeq (sAsg (wOp (fII (fun _ j => 0 < j) fun i j => i % j) (wCall (fun ds M Q => on1 ds fun d => fInt d M Q) (wCons (wOp fMul (wVar 4) (wOp fAdd (wOp (fII CDiv fun i j => i / j) (wVar 4) (wC (.int 2003))) (wC (.int 40014)))) wNil)) (wC (.int 2147483563))) (gwName 4))
      (sRet (wOp (fII (fun _ j => 0 < j) fun i j => i % j) (wCall (fun ds M Q => on1 ds fun d => fInt d M Q) (wCons (wOp (fII CDiv fun i j => i / j) (wVar 4) (wC (.int 16))) wNil)) (wVar 1)))))))))
def N__law_draw : List Str := ["hand", "many", "cell", "digit", "number"]
def w__law_any (xc : Str → Addr) : WS :=
  (sRet (wOp fIx (wVar 1) (wDef (ph__law_draw xc) (wCons (wVar 0) (wCons (wCall (fun ds M Q => on1 ds fun d => fLen d M Q) (wCons (wVar 1) wNil)) wNil)))))
def N__law_any : List Str := ["hand", "some"]
def w__law_stock (xc : Str → Addr) : WS :=
  (sSeq (sPar3 1 2 3 (wCons (wLstC wNil) (wCons (wC (.int 0)) (wCons (wDef (ph__law_any xc) (wCons (wVar 0) (wCons (wLst (wCons (wC (.int 3)) (wCons (wC (.int 20)) (wCons (wC (.int 999)) wNil)))) wNil))) wNil))))
      (sSeq (sFor (iwRng1 (wCons (wDef (ph__law_draw xc) (wCons (wVar 0) (wCons (wC (.int 20)) wNil))) wNil)) (gwName 4) (sIf (wAnd (wB (wOp (fCmp fun i j => decide (j < i)) (wVar 2) (wC (.int 0)))) (wB (wOp fEq (wDef (ph__law_draw xc) (wCons (wVar 0) (wCons (wC (.int 2)) wNil))) (wC (.int 0))))) (sSeq (sAsg (wCall (fun ds M Q => on2 ds fun d e => fMin2 d e M Q) (wCons (wC (.int 999)) (wCons (wDef (ph__law_any xc) (wCons (wVar 0) (wCons (wLst (wCons (wVar 2) (wCons (wOp fAdd (wC (.int 1)) (wDef (ph__law_draw xc) (wCons (wVar 0) (wCons (wVar 2) wNil)))) (wCons (wOp fAdd (wC (.int 1)) (wDef (ph__law_draw xc) (wCons (wVar 0) (wCons (wVar 2) wNil)))) wNil)))) wNil))) wNil))) (gwName 5))
      (sSeq (sDrop (wM "list" fApp (wVar 1) (wCons (wTup (wCons (wC (.str "out")) (wCons (wVar 5) wNil))) wNil)))
      (sAsg (wOp fSub (wVar 2) (wVar 5)) (gwName 2)))) (sSeq (sAsg (wOp fAdd (wC (.int 1)) (wDef (ph__law_draw xc) (wCons (wVar 0) (wCons (wVar 3) wNil)))) (gwName 5))
      (sSeq (sDrop (wM "list" fApp (wVar 1) (wCons (wTup (wCons (wC (.str "in")) (wCons (wVar 5) (wCons (wDef (ph__law_any xc) (wCons (wVar 0) (wCons (wLst (wCons (wC (.int 0)) (wCons (wC (.int 999)) (wCons (wC (.int 5)) (wCons (wDef (ph__law_draw xc) (wCons (wVar 0) (wCons (wC (.int 1000)) wNil))) wNil))))) wNil))) wNil)))) wNil)))
      (sAsg (wOp fAdd (wVar 2) (wVar 5)) (gwName 2))))))
      (sRet (wCall (fun ds M Q => on1 ds fun d => fTuple d M Q) (wCons (wVar 1) wNil)))))
def N__law_stock : List Str := ["hand", "found", "here", "span", "turn", "many"]
def w__law_pieces (xc : Str → Addr) : WS :=
  (sSeq (sPar3 1 2 3 (wCons (wLstC wNil) (wCons (wLstC wNil) (wCons (wC (.int 0)) wNil))))
      (sSeq (sFor (iwSeq (wVar 0)) (gwName 4) (sSeq (sIf (wB (wOp fEq (wOp fIx (wVar 4) (wC (.int 0))) (wC (.str "in")))) (sDrop (wM "list" fApp (wVar 1) (wCons (wLstC (wCons (wOp fIx (wVar 4) (wC (.int 1))) (wCons (wOp fIx (wVar 4) (wC (.int 2))) wNil))) wNil))) (sSeq (sAsg (wOp fIx (wVar 4) (wC (.int 1))) (gwName 5))
      (sSeq (sFor (iwSeq (wVar 1)) (gwName 6) (sSeq (sAsg (wCall (fun ds M Q => on2 ds fun d e => fMin2 d e M Q) (wCons (wVar 5) (wCons (wOp fIx (wVar 6) (wC (.int 0))) wNil))) (gwName 7))
      (sSeq (sDrop (wM "list" fApp (wVar 2) (wCons (wTup (wCons (wVar 7) (wCons (wOp fIx (wVar 6) (wC (.int 1))) wNil))) wNil)))
      (sAsg (wTup (wCons (wOp fSub (wOp fIx (wVar 6) (wC (.int 0))) (wVar 7)) (wCons (wOp fSub (wVar 5) (wVar 7)) wNil))) (gwTup (gwCons (gwSub (wVar 6) (wC (.int 0)) fSetL) (gwCons (gwName 5) gwNil)))))))
      (sAsg (wLcC (iwSeq (wVar 1)) (gwName 6) (wB (wOp (fCmp fun i j => decide (j < i)) (wOp fIx (wVar 6) (wC (.int 0))) (wC (.int 0)))) (wVar 6) [6]) (gwName 1)))))
      (sAsg (wCall (fun ds M Q => on2 ds fun d e => fMax2 d e M Q) (wCons (wVar 3) (wCons (wCall (fun ds M Q => on1 ds fun d => fSum d M Q) (wCons (wLc (iwSeq (wVar 1)) (gwName 6) wYes (wOp fIx (wVar 6) (wC (.int 0))) [6]) wNil)) wNil))) (gwName 3))))
      (sRet (wTup (wCons (wLc (iwSeq (wVar 1)) (gwName 6) wYes (wTup (wCons (wOp fIx (wVar 6) (wC (.int 0))) (wCons (wOp fIx (wVar 6) (wC (.int 1))) wNil))) [6]) (wCons (wVar 2) (wCons (wVar 3) wNil)))))))
def N__law_pieces : List Str := ["stock", "inside", "gone", "most", "deed", "many", "layer", "part"]
def w__law_cost (xc : Str → Addr) : WS :=
  (sRet (wCall (fun ds M Q => on1 ds fun d => fSum d M Q) (wCons (wLc (iwSeq (wVar 0)) (gwTup (gwCons (gwName 1) (gwCons (gwName 2) gwNil))) wYes (wOp fMul (wVar 1) (wVar 2)) [1, 2]) wNil)))
def N__law_cost : List Str := ["some", "many", "price"]
def w__law_stock_right (xc : Str → Addr) : WS :=
  (sSeq (sAsg (wDef (ph__law_pieces xc) (wCons (wVar 1) wNil)) (gwTup (gwCons (gwName 2) (gwCons (gwName 3) (gwCons (gwName 4) gwNil)))))
      (sSeq (sAsg (wCall (fun ds M Q => on1 ds fun d => fSum d M Q) (wCons (wLc (iwSeq (wVar 2)) (gwName 9) wYes (wOp fIx (wVar 9) (wC (.int 0))) [9]) wNil)) (gwName 5))
      (sSeq (sIf (wOr (wB (wOp fNe (wDef (ph_there xc) (wCons (wVar 1) wNil)) (wVar 5))) (wOr (wB (wOp fNe (wDef (ph_layers xc) (wCons (wVar 1) wNil)) (wCall (fun ds M Q => on1 ds fun d => fTuple d M Q) (wCons (wVar 2) wNil)))) (wB (wOp fNe (wDef (ph_most_there xc) (wCons (wVar 1) wNil)) (wVar 4))))) (sRet (wC (.bl false))) sNext)
      (sSeq (sIf (wOr (wB (wOp fNe (wDef (ph_worth_there xc) (wCons (wVar 1) wNil)) (wDef (ph__law_cost xc) (wCons (wVar 2) wNil)))) (wB (wOp fNe (wDef (ph_cost_out xc) (wCons (wVar 1) wNil)) (wDef (ph__law_cost xc) (wCons (wVar 3) wNil))))) (sRet (wC (.bl false))) sNext)
      (sSeq (sAsg (wDef (ph__law_cost xc) (wCons (wLc (iwSeq (wVar 1)) (gwName 10) (wB (wOp fEq (wOp fIx (wVar 10) (wC (.int 0))) (wC (.str "in")))) (wTup (wCons (wOp fIx (wVar 10) (wC (.int 1))) (wCons (wOp fIx (wVar 10) (wC (.int 2))) wNil))) [10]) wNil)) (gwName 6))
      (sSeq (sIf (wB (wOp fNe (wOp fAdd (wDef (ph_worth_there xc) (wCons (wVar 1) wNil)) (wDef (ph_cost_out xc) (wCons (wVar 1) wNil))) (wVar 6))) (sRet (wC (.bl false))) sNext)
      (sSeq (sAsg (wOp fAdd (wVar 1) (wTup (wCons (wTup (wCons (wC (.str "in")) (wCons (wOp fAdd (wC (.int 1)) (wDef (ph__law_draw xc) (wCons (wVar 0) (wCons (wC (.int 9)) wNil)))) (wCons (wDef (ph__law_draw xc) (wCons (wVar 0) (wCons (wC (.int 1000)) wNil))) wNil)))) wNil))) (gwName 7))
      (sSeq (sIf (wOr (wB (wOp fNe (wDef (ph_layers xc) (wCons (wVar 7) wNil)) (wOp fAdd (wDef (ph_layers xc) (wCons (wVar 1) wNil)) (wTup (wCons (wTup (wCons (wOp fIx (wOp fIx (wVar 7) (wUn fNeg (wC (.int 1)))) (wC (.int 1))) (wCons (wOp fIx (wOp fIx (wVar 7) (wUn fNeg (wC (.int 1)))) (wC (.int 2))) wNil))) wNil))))) (wB (wOp fNe (wDef (ph_cost_out xc) (wCons (wVar 7) wNil)) (wDef (ph_cost_out xc) (wCons (wVar 1) wNil))))) (sRet (wC (.bl false))) sNext)
      (sSeq (sIf (wNot (wB (wChain (fCmp fun i j => decide (i < j)) (fCmp fun i j => decide (i < j)) (wC (.int 0)) (wVar 5) (wC (.int 1000))))) (sRet (wC (.bl true))) sNext)
      (sSeq (sAsg (wOp fAdd (wVar 1) (wTup (wCons (wTup (wCons (wC (.str "out")) (wCons (wVar 5) wNil))) wNil))) (gwName 8))
      (sRet (wAndV (wOp fEq (wDef (ph_there xc) (wCons (wVar 8) wNil)) (wC (.int 0))) (wAndV (wOp fEq (wDef (ph_layers xc) (wCons (wVar 8) wNil)) (wTup wNil)) (wAndV (wOp fEq (wDef (ph_cost_out xc) (wCons (wVar 8) wNil)) (wVar 6)) (wOp fEq (wDef (ph_most_there xc) (wCons (wVar 8) wNil)) (wVar 4))))))))))))))))
def N__law_stock_right : List Str := ["hand", "stock", "inside", "gone", "most", "many", "came", "more", "empty", "part", "deed"]
def w_law (xc : Str → Addr) : WS :=
  (sSeq (sAsg (wDef (ph__law_hand xc) (wCons (wVar 0) wNil)) (gwName 1))
      (sSeq (sAsg (wTup (wCons (wTup (wCons (wC (.str "in")) (wCons (wC (.int 5)) (wCons (wC (.int 2)) wNil)))) (wCons (wTup (wCons (wC (.str "in")) (wCons (wC (.int 3)) (wCons (wC (.int 4)) wNil)))) (wCons (wTup (wCons (wC (.str "out")) (wCons (wC (.int 6)) wNil))) (wCons (wTup (wCons (wC (.str "in")) (wCons (wC (.int 1)) (wCons (wC (.int 9)) wNil)))) wNil))))) (gwName 2))
      (sSeq (sIf (wOr (wB (wOp fNe (wDef (ph_there xc) (wCons (wVar 2) wNil)) (wC (.int 3)))) (wOr (wB (wOp fNe (wDef (ph_layers xc) (wCons (wVar 2) wNil)) (wTup (wCons (wTup (wCons (wC (.int 2)) (wCons (wC (.int 4)) wNil))) (wCons (wTup (wCons (wC (.int 1)) (wCons (wC (.int 9)) wNil))) wNil))))) (wOr (wB (wOp fNe (wDef (ph_cost_out xc) (wCons (wVar 2) wNil)) (wC (.int 14)))) (wB (wOp fNe (wDef (ph_worth_there xc) (wCons (wVar 2) wNil)) (wC (.int 17))))))) (sRet (wC (.bl false))) sNext)
      (sSeq (sIf (wOr (wB (wOp fNe (wDef (ph_most_there xc) (wCons (wVar 2) wNil)) (wC (.int 8)))) (wOr (wB (wOp fNe (wDef (ph_there xc) (wCons (wTup wNil) wNil)) (wC (.int 0)))) (wOr (wB (wOp fNe (wDef (ph_layers xc) (wCons (wTup wNil) wNil)) (wTup wNil))) (wOr (wB (wOp fNe (wDef (ph_cost_out xc) (wCons (wTup wNil) wNil)) (wC (.int 0)))) (wB (wOp fNe (wDef (ph_most_there xc) (wCons (wTup wNil) wNil)) (wC (.int 0)))))))) (sRet (wC (.bl false))) sNext)
      (sSeq (sFor (iwRng1 (wCons (wC (.int 8)) wNil)) (gwName 3) (sIf (wNot (wB (wDef (ph__law_stock_right xc) (wCons (wVar 1) (wCons (wDef (ph__law_stock xc) (wCons (wVar 1) wNil)) wNil))))) (sRet (wC (.bl false))) sNext))
      (sRet (wC (.bl true))))))))
def N_law : List Str := ["script", "hand", "stock", "turn"]
end K66

set_option Elab.async false
set_option linter.all false
set_option maxRecDepth 100000
set_option maxHeartbeats 4000000
namespace K66
open PySem PySem.Spec PyProof.Rows L2 DL
local macro_rules | `(tactic| walk_at "sh") => `(tactic| (first | exact shp_int _ | exact shpT_ints _ | exact shpL_ints _ | exact shp_non | exact shp_bl _ | exact shp_str (by assumption) | exact shp_str (by decide +kernel) | exact shps_nil | (refine shpL ?_; walk_at "sh") | (refine shpT ?_; walk_at "sh") | (refine shps_cons ?_ ?_ <;> walk_at "sh")))
local macro_rules | `(tactic| walk_at "g") => `(tactic| (conv => whnf))
local macro_rules | `(tactic| walk_at "lk") => `(tactic| (first | with_reducible assumption | with_reducible rfl | rfl | assumption | (simp only [asQ, asL, lstC, up_same]; first | rfl | assumption) | (simp only [dres, up_same, Option.getD_some]; rfl)))
local macro_rules | `(tactic| walk_at "sd") => `(tactic| (first | with_reducible rfl | ((try dsimp only); done) | ((try dsimp only); first | with_reducible rfl | with_reducible assumption | exact True.intro | omega | (refine lenE _ ?_; exact Nat.le_of_ble_eq_true rfl) | (refine lenE _ ?_; omega) | (refine lenE _ ?_; simp; omega) | (refine ltE _ ?_; simp; omega) | exact ⟨rfl, _, by walk_at "lk"⟩ | exact shp_int _ | walk_at "sh" | exact shpT_ints _ | exact shpL_ints _ | exact shpL_ints [] | (simp only [dres, up_same, Option.getD_some]; first | exact shpL_ints _ | exact shpT_ints _) | exact shpT_ints [] | assumption | decide | exact Or.inl ⟨by omega, by omega⟩ | exact Or.inr ⟨by omega, by omega⟩ | exact Or.inr ⟨by decide, by decide⟩ | exact ⟨by decide, by decide⟩ | exact ⟨by omega, by omega⟩ | exact ⟨by decide, by decide, by decide⟩ | rfl | (simp; omega) | (simp only [dres, Shp, Shps, and_self]; done))))
local macro_rules | `(tactic| walk_at "r") => `(tactic| ((conv => whnf); repeat' (first | (refine And.intro (by walk_at "sd") ?_; conv => whnf) | (refine Exists.intro _ (And.intro (by walk_at "lk") ?_); conv => whnf))))
local macro_rules | `(tactic| walk_at "br") => `(tactic| (refine cnd_i (fun hb => ?_) (fun hb => ?_) <;> (try dsimp only at hb) <;> (try simp only [dres, eqD_int, decide_eq_true_eq, decide_eq_false_iff_not, Bool.not_eq_true', Bool.not_eq_false'] at hb)))
theorem vc_is_integer (xc) : Ok N_is_integer (ph_is_integer xc) (w_is_integer xc) := ok1 fun a M Ed Qd h => by
  obtain ⟨i, rfl, h1⟩ := onI_ok h
  walk_at "r"
  exact QLe.i h1
theorem vc_is_within (xc) : Ok N_is_within (ph_is_within xc) (w_is_within xc) := ok3 fun a lo hi M Ed Qd h => by
  obtain ⟨i, rfl, h1⟩ := onI_ok h
  obtain ⟨j, rfl, h2⟩ := onI_ok h1
  obtain ⟨n, rfl, h3⟩ := onI_ok h2
  walk_at "r"
  walk_at "br"
  · refine QLe.i ?_
    rename_i hb
    simpa [hb] using h3
  · refine QLe.i ?_
    rename_i hb
    simpa [hb] using h3
theorem vc_is_deed (xc) : Ok N_is_deed (ph_is_deed xc) (w_is_deed xc) := ok1 fun a M Ed Qd h => by
  obtain ⟨⟨m, p⟩, rfl, ⟨h1, h2, h3⟩, hq⟩ := h
  cases p with
  | some p =>
    obtain ⟨h4, h5⟩ := h3 p rfl
    walk_at "r"
    refine cnd_f (by simp; exact ⟨h1, h2⟩) ?_
    walk_at "r"
    refine QLe.i ?_
    rw [decide_eq_true h4, decide_eq_true h5]
    exact hq
  | none =>
    walk_at "r"
    refine cnd_f (by simp; exact ⟨h1, h2⟩) ?_
    walk_at "r"
    exact QLe.i hq
theorem zip_split {α : Type} {s : List α} {pre post : List (α × Nat)} {q : α × Nat} (e : s.zipIdx = pre ++ q :: post) : s = pre.map Prod.fst ++ q.1 :: post.map Prod.fst := by
  have := congrArg (List.map Prod.fst) e
  simpa using this
theorem zip_len {α : Type} {s : List α} (h : s.length ≤ 1000) : s.zipIdx.length ≤ sizeLine := lenE _ (by rw [List.length_zipIdx]; omega)
theorem le_none {M M1 : Cells} {p : Addr} (l : Le M M1) (h : M1 p = none) : M p = none := by
  cases e : M p with
  | none => rfl
  | some c => rw [l p c e] at h; cases h
theorem ixN_0 {n : Nat} (h : 0 < n) : ixN n 0 = some 0 := by
  unfold ixN
  rw [if_pos (by omega), if_pos (by omega)]; rfl
theorem vc_check_stock (xc) : Ok N_check_stock (ph_check_stock xc) (w_check_stock xc) := ok1 fun a M Ed Qd h => by
  obtain ⟨s, rfl, hS, h1⟩ := h
  have hl := hS.len
  walk_at "r"
  refine cnd_f (by simp; omega) ?_
  walk_at "r"
  intro p hp
  refine LcOk.map (xs := s) (f := tDeed) (fun _ => .bl true) hp (fun _ => by trivial) (lenE _ (by omega)) (fun d hd c Qy hy => ?_) ?_
  · have ho := hS.okd d hd
    walk_at "r"
    exact hy
  · refine ⟨M, le_over hp, hp, ?_⟩
    walk_at "r"
    refine ⟨s.map fun _ => true, by simp, ?_⟩
    walk_at "r"
    refine cnd_f (by simp) ?_
    walk_at "r"
    rw [enumL_map]
    refine ForOk.typed (xs := s.zipIdx) (fun pre ρ M1 => (∃ x y, ρ = [some (tS s), some (.int (tot (pre.map Prod.fst))), x, y]) ∧ M1 = M) ⟨⟨none, none, rfl⟩, rfl⟩ (fun _ _ _ _ => by trivial) (fun pre q post ρ M1 e hI => ?_) (fun ρ M1 hI => ?_)
    · obtain ⟨⟨x, y, rfl⟩, rfl⟩ := hI
      have e2 := zip_split e
      have hn := hS.nn (pre.map Prod.fst ++ [q.1]) (post.map Prod.fst) (by rw [e2]; simp)
      rw [tot_app] at hn
      obtain ⟨⟨m, o⟩, k⟩ := q
      cases o with
      | some o =>
        walk_at "r"
        refine cnd_f (decide_eq_false (by simp only [sg] at hn; omega)) ?_
        walk_at "r"
        rw [List.map_append, List.map_cons, List.map_nil, tot_app]
        exact ⟨⟨_, _, rfl⟩, rfl⟩
      | none =>
        have e3 : tot (pre.map Prod.fst) + (0 - m) = tot (pre.map Prod.fst) + sg (m, none) := by simp only [sg]; omega
        walk_at "r"
        refine cnd_f (decide_eq_false (by simp only [sg] at hn; omega)) ?_
        walk_at "r"
        rw [List.map_append, List.map_cons, List.map_nil, tot_app, ← e3]
        exact ⟨⟨_, _, rfl⟩, rfl⟩
    · obtain ⟨⟨x, y, rfl⟩, rfl⟩ := hI
      walk_at "r"
      exact QLe.i h1
theorem vc_taken (xc) : Ok N_taken (ph_taken xc) (w_taken xc) := ok3 fun a b c M Ed Qd h => by
  obtain ⟨l, ha, hL, hl, h1⟩ := h
  obtain ⟨m, rfl, ⟨h2, h3, rfl⟩, hq⟩ := onI_ok h1
  clear h1
  walk_at "r"
  intro p hp
  walk_at "r"
  refine ⟨fun n ρ M1 => ∃ l' m' c' x y z, ρ = [some a, some (.int m'), some (.int 0), some (.ref p), some (.int c'), x, y, z] ∧ M1 = up M p (.lst (tL l')) ∧ OkL l' ∧ 0 ≤ m' ∧ m' ≤ am l' ∧ (takF l' m').1 = (takF l m).1 ∧ c' + (takF l' m').2 = (takF l m).2 ∧ n = m'.toNat,
    ⟨m.toNat, l, m, 0, none, none, none, rfl, rfl, hL, h2, h3, rfl, by omega, rfl⟩, fun n ρ M1 hI => ?_⟩
  obtain ⟨l', m', c', x, y, z, rfl, rfl, hL', k0, k1, k2, k3, rfl⟩ := hI
  walk_at "r"
  walk_at "br"
  · rename_i hb
    cases l' with
    | nil => simp [am] at k1; omega
    | cons q r =>
      obtain ⟨q1, q2, q3, q4⟩ := hL' q List.mem_cons_self
      have hr : OkL r := fun x hx => hL' x (List.mem_cons_of_mem _ hx)
      have ea : am (q :: r) = q.1 + am r := by simp [am]
      have ha : atI (tL (q :: r)) 0 = some (.tup [.int q.1, .int q.2]) := atI_map1 (k := 0) (f := tLay) rfl rfl
      have hi : ixN (tL (q :: r)).length 0 = some 0 := ixN_0 (by simp)
      have et : takF (q :: r) m' = if q.1 ≤ m' then ((takF r (m' - q.1)).1, q.1 * q.2 + (takF r (m' - q.1)).2) else ((q.1 - m', q.2) :: r, m' * q.2) := by
        rw [takF, if_neg (by omega)]
      walk_at "r"
      walk_at "br"
      · rename_i hb2
        have hle : q.1 ≤ m' := by
          by_cases z : q.1 < m'
          · omega
          · rw [if_neg z] at hb2; omega
        rw [if_pos hle] at et
        rw [et] at k2 k3
        rw [hb2]
        walk_at "r"
        refine ⟨(m' - q.1).toNat, by omega, r, m' - q.1, c' + q.1 * q.2, _, _, _, rfl, ?_, hr, by omega, by omega, k2, ?_, rfl⟩
        · rw [up_up]; rfl
        · rw [← k3]; show _ = c' + (q.1 * q.2 + (takF r (m' - q.1)).2); omega
      · rename_i hb2
        have hle : ¬ q.1 ≤ m' := by
          by_cases z : q.1 < m'
          · rw [if_pos z] at hb2; omega
          · rw [if_neg z] at hb2; omega
        rw [if_neg hle] at et
        rw [et] at k2 k3
        rw [if_neg (show ¬ q.1 < m' by omega)]
        walk_at "r"
        rw [show m' - m' = 0 from by omega]
        refine ⟨0, by omega, (q.1 - m', q.2) :: r, 0, c' + m' * q.2, _, _, _, rfl, ?_, fun x hx => ?_, by omega, am_nn fun x hx => ?_, ?_, ?_, rfl⟩
        · rw [up_up]; rfl
        · rcases List.mem_cons.mp hx with rfl | hx
          · exact ⟨by show 0 < q.1 - m'; omega, by show q.1 - m' ≤ 999; omega, q3, q4⟩
          · exact hr x hx
        · rcases List.mem_cons.mp hx with rfl | hx
          · exact ⟨by show 0 < q.1 - m'; omega, by show q.1 - m' ≤ 999; omega, q3, q4⟩
          · exact hr x hx
        · rw [takF_0 (Int.le_refl 0)]; exact k2
        · rw [takF_0 (Int.le_refl 0), ← k3]; exact Int.add_zero _
  · rename_i hb
    obtain rfl : m' = 0 := by omega
    rw [takF_0 (Int.le_refl 0)] at k2 k3
    walk_at "r"
    refine QLe.i ?_
    rw [Int.add_zero] at k3
    rw [k3, show l' = (takF l m).1 from k2]
    exact hq p hp
theorem vc_gone_through (xc) : Ok N_gone_through (ph_gone_through xc) (w_gone_through xc) := ok2 fun a b M Ed Qd h => by
  obtain ⟨s, rfl, hS, rfl, h1⟩ := h
  have hl := hS.len
  walk_at "r"
  intro p hp
  walk_at "r"
  refine ForOk.typed (xs := s) (f := tDeed) (fun pre ρ M1 => ∃ p x y, ρ = [some (tS s), some (.int 0), some (.ref p), some (.int (goF pre).2), x, y] ∧ Le M M1 ∧ M p = none ∧ M1 p = some (.lst (tL (goF pre).1)))
    ⟨p, none, none, rfl, le_over hp, hp, up_same⟩ (fun _ _ _ _ => by trivial) (fun pre d post ρ M1 e hI => ?_) (fun ρ M1 hI => ?_)
  · obtain ⟨p, x, y, rfl, l, hn, hM⟩ := hI
    have hP : OkS pre := hS.pre e
    have hP2 : OkS (pre ++ [d]) := hS.pre (post := post) (by rw [e]; simp)
    obtain ⟨a1, a2, a3, a4, a5, a6⟩ := go_ok hP
    have hd := hS.okd d (by rw [e]; simp)
    have ht := hP2.tot
    rw [tot_app] at ht
    have hpl := hP.len
    have ec : lstC (M1 p) = some (tL (goF pre).1) := by rw [hM]; rfl
    have eq : asQ M1 (.ref p) = some (tL (goF pre).1) := ec
    obtain ⟨m, o⟩ := d
    obtain ⟨d1, d2, d3⟩ := hd
    cases o with
    | some o =>
      walk_at "r"
      rw [goF_app]
      refine ⟨p, _, _, rfl, l.over hn, hn, ?_⟩
      rw [up_same]; simp [step, tL]
    | none =>
      have e1 : 0 ≤ m := by show (0:Int) ≤ m; have : 1 ≤ m := d1; omega
      have e2 : m ≤ am (goF pre).1 := by simp only [sg] at ht; omega
      walk_at "r"
      intro p2 hp2
      walk_at "r"
      rw [goF_app]
      refine ⟨p2, _, _, rfl, l.trans (le_over hp2), le_none l hp2, ?_⟩
      rw [up_same]; rfl
  · obtain ⟨p, x, y, rfl, l, hn, hM⟩ := hI
    walk_at "r"
    exact QLe.i (h1 M1 p l hM)
end K66

set_option Elab.async false
set_option linter.all false
set_option maxRecDepth 100000
set_option maxHeartbeats 4000000
namespace K66
open PySem PySem.Spec PyProof.Rows L2 DL
local macro_rules | `(tactic| walk_at "sh") => `(tactic| (first | exact shp_int _ | exact shpT_ints _ | exact shpL_ints _ | exact shp_non | exact shp_bl _ | exact shp_str (by assumption) | exact shp_str (by decide +kernel) | exact shps_nil | (refine shpL ?_; walk_at "sh") | (refine shpT ?_; walk_at "sh") | (refine shps_cons ?_ ?_ <;> walk_at "sh")))
local macro_rules | `(tactic| walk_at "g") => `(tactic| (conv => whnf))
local macro_rules | `(tactic| walk_at "lk") => `(tactic| (first | with_reducible assumption | with_reducible rfl | rfl | assumption | (simp only [asQ, asL, lstC, up_same]; first | rfl | assumption) | (simp only [dres, up_same, Option.getD_some]; rfl)))
local macro_rules | `(tactic| walk_at "sd") => `(tactic| (first | with_reducible rfl | ((try dsimp only); done) | ((try dsimp only); first | with_reducible rfl | with_reducible assumption | exact True.intro | omega | (refine lenE _ ?_; exact Nat.le_of_ble_eq_true rfl) | (refine lenE _ ?_; omega) | (refine lenE _ ?_; simp; omega) | (refine ltE _ ?_; simp; omega) | exact ⟨rfl, _, by walk_at "lk"⟩ | exact shp_int _ | walk_at "sh" | exact shpT_ints _ | exact shpL_ints _ | exact shpL_ints [] | (simp only [dres, up_same, Option.getD_some]; first | exact shpL_ints _ | exact shpT_ints _) | exact shpT_ints [] | assumption | decide | exact Or.inl ⟨by omega, by omega⟩ | exact Or.inr ⟨by omega, by omega⟩ | exact Or.inr ⟨by decide, by decide⟩ | exact ⟨by decide, by decide⟩ | exact ⟨by omega, by omega⟩ | exact ⟨by decide, by decide, by decide⟩ | rfl | (simp; omega) | (simp only [dres, Shp, Shps, and_self]; done))))
local macro_rules | `(tactic| walk_at "r") => `(tactic| ((conv => whnf); repeat' (first | (refine And.intro (by walk_at "sd") ?_; conv => whnf) | (refine Exists.intro _ (And.intro (by walk_at "lk") ?_); conv => whnf))))
local macro_rules | `(tactic| walk_at "br") => `(tactic| (refine cnd_i (fun hb => ?_) (fun hb => ?_) <;> (try dsimp only at hb) <;> (try simp only [dres, eqD_int, decide_eq_true_eq, decide_eq_false_iff_not, Bool.not_eq_true', Bool.not_eq_false'] at hb)))
theorem vc__law_hand (xc) : Ok N__law_hand (ph__law_hand xc) (w__law_hand xc) := vc_hand N__law_hand rfl 2027 xc
theorem vc__law_draw (xc) : Ok N__law_draw (ph__law_draw xc) (w__law_draw xc) := vc_draw N__law_draw rfl xc
theorem vc__law_any (xc) : Ok N__law_any (ph__law_any xc) (w__law_any xc) := vc_any N__law_any rfl xc
theorem vc_there (xc) : Ok N_there (ph_there xc) (w_there xc) := ok1 fun a M Ed Qd h => by
  obtain ⟨s, rfl, hS, h1⟩ := h
  obtain ⟨a1, a2, a3, a4, a5, a6⟩ := go_ok hS
  have hl := hS.len
  walk_at "r"
  intro M' p l hM
  have ec : lstC (M' p) = some (tL (goF s).1) := by rw [hM]; rfl
  walk_at "r"
  intro q hq
  have hpq : p ≠ q := fun z => by rw [← z, hM] at hq; cases hq
  refine LcOk.map (xs := (goF s).1) (f := tLay) (fun q => .int q.1) hq (fun _ => by rw [up_ne hpq]; exact hM) (lenE _ (by omega)) (fun d hd c Qy hy => ?_) ?_
  · walk_at "r"
    exact hy
  · refine ⟨_, le_over hq, hq, ?_⟩
    rw [show (goF s).1.map (fun q => D.int q.1) = ((goF s).1.map Prod.fst).map D.int from by simp]
    walk_at "r"
    exact QLe.of l h1
theorem vc_worth_there (xc) : Ok N_worth_there (ph_worth_there xc) (w_worth_there xc) := ok1 fun a M Ed Qd h => by
  obtain ⟨s, rfl, hS, h1⟩ := h
  obtain ⟨a1, a2, a3, a4, a5, a6⟩ := go_ok hS
  have hl := hS.len
  walk_at "r"
  intro M' p l hM
  have ec : lstC (M' p) = some (tL (goF s).1) := by rw [hM]; rfl
  walk_at "r"
  intro q hq
  have hpq : p ≠ q := fun z => by rw [← z, hM] at hq; cases hq
  refine LcOk.map (xs := (goF s).1) (f := tLay) (fun q => .int (q.1 * q.2)) hq (fun _ => by rw [up_ne hpq]; exact hM) (lenE _ (by omega)) (fun d hd c Qy hy => ?_) ?_
  · obtain ⟨d1, d2, d3, d4⟩ := a1 d hd
    walk_at "r"
    exact hy
  · refine ⟨_, le_over hq, hq, ?_⟩
    rw [show (goF s).1.map (fun q => D.int (q.1 * q.2)) = ((goF s).1.map fun q => q.1 * q.2).map D.int from by simp]
    walk_at "r"
    exact QLe.of l h1
theorem vc_cost_out (xc) : Ok N_cost_out (ph_cost_out xc) (w_cost_out xc) := ok1 fun a M Ed Qd h => by
  obtain ⟨s, rfl, hS, h1⟩ := h
  walk_at "r"
  intro M' p l hM
  walk_at "r"
  exact QLe.of l h1
theorem vc_layers (xc) : Ok N_layers (ph_layers xc) (w_layers xc) := ok1 fun a M Ed Qd h => by
  obtain ⟨s, rfl, hS, h1⟩ := h
  walk_at "r"
  intro M' p l hM
  have ec : asQ M' (.ref p) = some (tL (goF s).1) := by show lstC (M' p) = _; rw [hM]; rfl
  walk_at "r"
  exact QLe.of l h1
theorem max_if (i j : Int) : (if j > i then j else i) = max i j := by
  split <;> omega
theorem vc_most_there (xc) : Ok N_most_there (ph_most_there xc) (w_most_there xc) := ok1 fun a M Ed Qd h => by
  obtain ⟨s, rfl, hS, h1⟩ := h
  walk_at "r"
  refine ForOk.typed (xs := s) (f := tDeed) (fun pre ρ M1 => (∃ x, ρ = [some (tS s), some (.int (mostP pre).1), some (.int (mostP pre).2), x]) ∧ M1 = M) ⟨⟨none, rfl⟩, rfl⟩ (fun _ _ _ _ => by trivial) (fun pre d post ρ M1 e hI => ?_) (fun ρ M1 hI => ?_)
  · obtain ⟨⟨x, rfl⟩, rfl⟩ := hI
    obtain ⟨m, o⟩ := d
    rw [mostP_app]
    cases o with
    | some o =>
      walk_at "r"
      rw [max_if]
      exact ⟨⟨_, rfl⟩, rfl⟩
    | none =>
      walk_at "r"
      rw [max_if, show (mostP pre).2 + (0 - m) = (mostP pre).2 + sg (m, none) from by simp only [sg]; omega]
      exact ⟨⟨_, rfl⟩, rfl⟩
  · obtain ⟨⟨x, rfl⟩, rfl⟩ := hI
    walk_at "r"
    exact QLe.i h1
theorem vc__law_cost (xc) : Ok N__law_cost (ph__law_cost xc) (w__law_cost xc) := ok1 fun a M Ed Qd h => by
  obtain ⟨l, h1, h2, h3, h4, h5⟩ := h
  have fin : ∀ q, M q = none → ∀ chk : Cells → Prop, (∀ c, chk (up M q c)) → ∀ fin : List D → Cells → Prop, (fin (l.map fun q => .int (q.1 * q.2)) (up M q (.lst (l.map fun q => .int (q.1 * q.2))))) →
      LcOk q chk (gwTup (gwCons (gwName 1) (gwCons (gwName 2) gwNil))) wYes (wOp fMul (wVar 1) (wVar 2)) (wipeR (startD N__law_cost [a]) [1, 2]) fin (l.map tLay) (up M q (.lst [])) := fun q hq chk hc fin hf => by
    refine LcOk.map (xs := l) (f := tLay) (fun q => .int (q.1 * q.2)) hq hc (lenE _ (by omega)) (fun d hd c Qy hy => ?_) hf
    obtain ⟨d3, d4⟩ := h3 d hd
    walk_at "r"
    exact hy
  have em : l.map (fun q => D.int (q.1 * q.2)) = (l.map fun q => q.1 * q.2).map D.int := by simp
  cases a <;> first | (cases h2; done) | skip
  case tup ds =>
    cases h2
    walk_at "r"
    intro q hq
    refine fin q hq _ (fun _ => by trivial) _ ?_
    refine ⟨_, le_over hq, hq, ?_⟩
    rw [em]
    walk_at "r"
    exact QLe.i h5
  case lst ds =>
    cases h2
    walk_at "r"
    intro q hq
    refine fin q hq _ (fun _ => by trivial) _ ?_
    refine ⟨_, le_over hq, hq, ?_⟩
    rw [em]
    walk_at "r"
    exact QLe.i h5
  case ro ds =>
    cases h2
    walk_at "r"
    intro q hq
    refine fin q hq _ (fun _ => by trivial) _ ?_
    refine ⟨_, le_over hq, hq, ?_⟩
    rw [em]
    walk_at "r"
    exact QLe.i h5
  case ref p =>
    have h2' : lstC (M p) = some (tL l) := h2
    walk_at "r"
    intro q hq
    have hM := lstC_ok h2'
    have hpq : p ≠ q := fun z => by rw [← z, hM] at hq; cases hq
    refine fin q hq _ (fun _ => by rw [up_ne hpq]; exact hM) _ ?_
    refine ⟨_, le_over hq, hq, ?_⟩
    rw [em]
    walk_at "r"
    exact QLe.i h5
end K66

set_option Elab.async false
set_option linter.all false
set_option maxRecDepth 100000
set_option maxHeartbeats 4000000
namespace K66
open PySem PySem.Spec PyProof.Rows L2 DL
local macro_rules | `(tactic| walk_at "sh") => `(tactic| (first | exact shp_int _ | exact shpT_ints _ | exact shpL_ints _ | exact shp_non | exact shp_bl _ | exact shp_str (by assumption) | exact shp_str (by decide +kernel) | exact shps_nil | (refine shpL ?_; walk_at "sh") | (refine shpT ?_; walk_at "sh") | (refine shps_cons ?_ ?_ <;> walk_at "sh")))
local macro_rules | `(tactic| walk_at "g") => `(tactic| (conv => whnf))
local macro_rules | `(tactic| walk_at "lk") => `(tactic| (first | with_reducible assumption | with_reducible rfl | rfl | assumption | (simp only [asQ, asL, lstC, up_same]; first | rfl | assumption) | (simp only [dres, up_same, Option.getD_some]; rfl)))
local macro_rules | `(tactic| walk_at "sd") => `(tactic| (first | with_reducible rfl | ((try dsimp only); done) | ((try dsimp only); first | with_reducible rfl | with_reducible assumption | exact True.intro | omega | (refine lenE _ ?_; exact Nat.le_of_ble_eq_true rfl) | (refine lenE _ ?_; omega) | (refine lenE _ ?_; simp; omega) | (refine ltE _ ?_; simp; omega) | exact ⟨rfl, _, by walk_at "lk"⟩ | exact shp_int _ | walk_at "sh" | exact shpT_ints _ | exact shpL_ints _ | exact shpL_ints [] | (simp only [dres, up_same, Option.getD_some]; first | exact shpL_ints _ | exact shpT_ints _) | exact shpT_ints [] | assumption | decide | exact Or.inl ⟨by omega, by omega⟩ | exact Or.inr ⟨by omega, by omega⟩ | exact Or.inr ⟨by decide, by decide⟩ | exact ⟨by decide, by decide⟩ | exact ⟨by omega, by omega⟩ | exact ⟨by decide, by decide, by decide⟩ | rfl | (simp; omega) | (simp only [dres, Shp, Shps, and_self]; done))))
local macro_rules | `(tactic| walk_at "r") => `(tactic| ((conv => whnf); repeat' (first | (refine And.intro (by walk_at "sd") ?_; conv => whnf) | (refine Exists.intro _ (And.intro (by walk_at "lk") ?_); conv => whnf))))
local macro_rules | `(tactic| walk_at "br") => `(tactic| (refine cnd_i (fun hb => ?_) (fun hb => ?_) <;> (try dsimp only at hb) <;> (try simp only [dres, eqD_int, decide_eq_true_eq, decide_eq_false_iff_not, Bool.not_eq_true', Bool.not_eq_false'] at hb)))

theorem range_split {n x : Nat} {pre post : List Nat} (e : List.range n = pre ++ x :: post) : x = pre.length ∧ pre.length < n := by
  have h1 : (List.range n)[pre.length]? = some x := by rw [e]; simp
  have h2 := (List.getElem?_eq_some_iff.mp h1)
  obtain ⟨hl, h3⟩ := h2
  simp at h3 hl
  exact ⟨h3.symm, hl⟩
theorem up_swap {M : Cells} {p h : Addr} {a b c : D} (z : p ≠ h) : up (up (up M p a) h c) p b = up (up M p b) h c := by
  rw [up_comm z, up_up, up_comm (Ne.symm z)]
theorem up_at {M : Cells} {p h : Addr} {a c : D} (z : p ≠ h) : up (up M p a) h c p = some a := by rw [up_ne z, up_same]
theorem hand_ne {M : Cells} {p h : Addr} {c : D} (hp : M p = none) (hM : M h = some c) : p ≠ h := fun z => by rw [z, hM] at hp; cases hp
def StI (M : Cells) (h0 p : Addr) (span : Int) (n : Nat) (ρ : Rho) (M1 : Cells) : Prop :=
  ∃ x y s c, ρ = [some (.ref h0), some (.ref p), some (.int (tot s)), some (.int span), x, y] ∧ M1 = up (up M p (.lst (s.map tDeed))) h0 c ∧ HandC c ∧ OkS s ∧ s.length = n ∧ n ≤ 20 ∧ tot s ≤ 1000 * n
theorem vc__law_stock (xc) : Ok N__law_stock (ph__law_stock xc) (w__law_stock xc) := ok1 fun a M Ed Qd h => by
  obtain ⟨h0, rfl, ⟨c0, hM, hc0⟩, hq⟩ := onRef_ok h
  clear h
  walk_at "r"
  intro p hp
  have hph := hand_ne hp hM
  have hA : HandAt (up M p (.lst [])) h0 := ⟨c0, by rw [up_ne (Ne.symm hph)]; exact hM, hc0⟩
  walk_at "r"
  refine ⟨fun _ => rfl, ⟨by simp, by simp⟩, fun d c hd hc => ?_⟩
  obtain ⟨span, rfl, hs1, hs2⟩ : ∃ span : Int, d = .int span ∧ 0 < span ∧ span ≤ 999 := by
    simp only [List.mem_cons, List.not_mem_nil, or_false] at hd
    rcases hd with rfl | rfl | rfl <;> exact ⟨_, rfl, by decide, by decide⟩
  clear hd
  have hA2 : HandAt (up (up M p (.lst [])) h0 c) h0 := ⟨c, up_same, hc⟩
  walk_at "r"
  intro k c1 hk0 hk1 hc1
  rw [up_up]
  walk_at "r"
  refine ForOk.typed (xs := List.range _) (f := fun k : Nat => D.int (k : Nat)) (fun pre ρ M1 => StI M h0 p span pre.length ρ M1)
    ⟨none, none, [], c1, rfl, rfl, hc1, ⟨by decide, (fun d hd => by cases hd), fun pre post e => by rw [(List.append_eq_nil_iff.mp e.symm).1]; decide⟩, rfl, by decide, by decide⟩ (fun _ _ _ _ => by trivial) (fun pre x post ρ M1 e hI => ?_) (fun ρ M1 hI => ?_)
  · obtain ⟨x1, y, s, c, rfl, rfl, hc, hS, hl, hl20, hb⟩ := hI
    obtain ⟨rfl, hlt⟩ := range_split e
    have h20 : pre.length < 20 := by omega
    have hlp : (pre ++ [pre.length]).length = pre.length + 1 := by simp
    have ht := hS.tot
    clear hA hA2 hc1 hM hc0 e
    have hA : HandAt (up (up M p (.lst (s.map tDeed))) h0 c) h0 := ⟨c, up_same, hc⟩
    have fin : ∀ (d : Deed) (c' : D), HandC c' → OkD d → 0 ≤ tot s + sg d → sg d ≤ 1000 → ∀ z w t, t = tot s + sg d → StI M h0 p span (pre ++ [pre.length]).length [some (.ref h0), some (.ref p), some (.int t), some (.int span), z, w] (up (up M p (.lst (s.map tDeed ++ [tDeed d]))) h0 c') := fun d c' hc' hd h1 h2 z w t et => by
      rw [hlp]
      exact ⟨z, w, s ++ [d], c', by rw [tot_app, et], by rw [List.map_append]; rfl, hc', hS.snoc (by omega) hd (by rw [tot_app]; exact h1), by simp [hl], by omega, by rw [tot_app]; omega⟩
    have e1 : ∀ c, asL (up (up M p (.lst (s.map tDeed))) h0 c) (.ref p) = some (s.map tDeed) := fun c => by show lstC (up (up M p _) h0 c p) = _; rw [up_at hph]; rfl
    have e2 : ∀ c, lstC (up (up M p (.lst (s.map tDeed))) h0 c p) = some (s.map tDeed) := fun c => by rw [up_at hph]; rfl
    walk_at "r"
    walk_at "br"
    · rename_i hb1
      walk_at "r"
      intro k c2 hk0 hk1 hc2
      rw [up_up]
      have hA : HandAt (up (up M p (.lst (s.map tDeed))) h0 c2) h0 := ⟨c2, up_same, hc2⟩
      walk_at "r"
      walk_at "br"
      · walk_at "r"
        intro k1 c3 hk10 hk11 hc3
        rw [up_up]
        have hA : HandAt (up (up M p (.lst (s.map tDeed))) h0 c3) h0 := ⟨c3, up_same, hc3⟩
        walk_at "r"
        intro k2 c4 hk20 hk21 hc4
        rw [up_up]
        have hA : HandAt (up (up M p (.lst (s.map tDeed))) h0 c4) h0 := ⟨c4, up_same, hc4⟩
        walk_at "r"
        refine ⟨fun _ => rfl, ⟨by simp, by simp⟩, fun d c5 hd hc5 => ?_⟩
        rw [up_up]
        obtain ⟨w, rfl, hw1, hw2⟩ : ∃ w : Int, d = .int w ∧ 1 ≤ w ∧ w ≤ tot s := by
          simp only [List.mem_cons, List.not_mem_nil, or_false] at hd
          rcases hd with rfl | rfl | rfl <;> exact ⟨_, rfl, by omega, by omega⟩
        have e3 := e1 c5
        have e4 := e2 c5
        walk_at "r"
        rw [up_swap hph]
        have hv : 1 ≤ (if w < 999 then w else 999) ∧ (if w < 999 then w else 999) ≤ 999 ∧ (if w < 999 then w else 999) ≤ tot s := by split <;> omega
        generalize (if w < 999 then w else 999) = v at *
        exact fin (v, none) c5 hc5 ⟨hv.1, hv.2.1, fun p z => by cases z⟩ (by simp only [sg]; omega) (by simp only [sg]; omega) _ _ _ (by simp only [sg]; omega)
      · walk_at "r"
        intro k1 c3 hk10 hk11 hc3
        rw [up_up]
        have hA : HandAt (up (up M p (.lst (s.map tDeed))) h0 c3) h0 := ⟨c3, up_same, hc3⟩
        have e3 := e1 c3
        walk_at "r"
        intro k2 c4 hk20 hk21 hc4
        rw [up_up]
        have hA : HandAt (up (up M p (.lst (s.map tDeed))) h0 c4) h0 := ⟨c4, up_same, hc4⟩
        walk_at "r"
        refine ⟨fun _ => rfl, ⟨by simp, by simp⟩, fun d c5 hd hc5 => ?_⟩
        rw [up_up]
        obtain ⟨w, rfl, hw1, hw2⟩ : ∃ w : Int, d = .int w ∧ 0 ≤ w ∧ w ≤ 999 := by
          simp only [List.mem_cons, List.not_mem_nil, or_false] at hd
          rcases hd with rfl | rfl | rfl | rfl <;> exact ⟨_, rfl, by omega, by omega⟩
        have e4 := e2 c5
        walk_at "r"
        rw [up_swap hph]
        exact fin (1 + k1, some w) c5 hc5 ⟨by show (1:Int) ≤ 1 + k1; omega, by show (1:Int) + k1 ≤ 999; omega, fun p z => by cases z; exact ⟨hw1, hw2⟩⟩ (by simp only [sg]; omega) (by simp only [sg]; omega) _ _ _ (by simp only [sg])
    · rename_i hb1
      have hx : True := trivial
      walk_at "r"
      intro k1 c3 hk10 hk11 hc3
      rw [up_up]
      have hA : HandAt (up (up M p (.lst (s.map tDeed))) h0 c3) h0 := ⟨c3, up_same, hc3⟩
      have e3 := e1 c3
      walk_at "r"
      intro k2 c4 hk20 hk21 hc4
      rw [up_up]
      have hA : HandAt (up (up M p (.lst (s.map tDeed))) h0 c4) h0 := ⟨c4, up_same, hc4⟩
      walk_at "r"
      refine ⟨fun _ => rfl, ⟨by simp, by simp⟩, fun d c5 hd hc5 => ?_⟩
      rw [up_up]
      obtain ⟨w, rfl, hw1, hw2⟩ : ∃ w : Int, d = .int w ∧ 0 ≤ w ∧ w ≤ 999 := by
        simp only [List.mem_cons, List.not_mem_nil, or_false] at hd
        rcases hd with rfl | rfl | rfl | rfl <;> exact ⟨_, rfl, by omega, by omega⟩
      have e4 := e2 c5
      walk_at "r"
      rw [up_swap hph]
      exact fin (1 + k1, some w) c5 hc5 ⟨by show (1:Int) ≤ 1 + k1; omega, by show (1:Int) + k1 ≤ 999; omega, fun p z => by cases z; exact ⟨hw1, hw2⟩⟩ (by simp only [sg]; omega) (by simp only [sg]; omega) _ _ _ (by simp only [sg])
  · obtain ⟨x1, y, s, c, rfl, rfl, hc, hS, hl, hl20, hb⟩ := hI
    have e2 : asQ (up (up M p (.lst (s.map tDeed))) h0 c) (.ref p) = some (s.map tDeed) := by show lstC (up (up M p _) h0 c p) = _; rw [up_at hph]; rfl
    walk_at "r"
    exact QLe.of (le_over hp).up (hq s c hS (by omega) hc)
end K66

set_option Elab.async false
set_option linter.all false
set_option maxRecDepth 100000
set_option maxHeartbeats 4000000
namespace K66
open PySem PySem.Spec PyProof.Rows L2 DL
local macro_rules | `(tactic| walk_at "sh") => `(tactic| (first | exact shp_int _ | exact shpT_ints _ | exact shpL_ints _ | exact shp_non | exact shp_bl _ | exact shp_str (by assumption) | exact shp_str (by decide +kernel) | exact shps_nil | (refine shpL ?_; walk_at "sh") | (refine shpT ?_; walk_at "sh") | (refine shps_cons ?_ ?_ <;> walk_at "sh")))
local macro_rules | `(tactic| walk_at "g") => `(tactic| (conv => whnf))
local macro_rules | `(tactic| walk_at "lk") => `(tactic| (first | with_reducible assumption | with_reducible rfl | rfl | assumption | (simp only [asQ, asL, lstC, up_same]; first | rfl | assumption) | (simp only [dres, up_same, Option.getD_some]; rfl)))
local macro_rules | `(tactic| walk_at "sd") => `(tactic| (first | with_reducible rfl | ((try dsimp only); done) | ((try dsimp only); first | with_reducible rfl | with_reducible assumption | exact True.intro | omega | (refine lenE _ ?_; exact Nat.le_of_ble_eq_true rfl) | (refine lenE _ ?_; omega) | (refine lenE _ ?_; simp; omega) | (refine ltE _ ?_; simp; omega) | exact ⟨rfl, _, by walk_at "lk"⟩ | exact shp_int _ | walk_at "sh" | exact shpT_ints _ | exact shpL_ints _ | exact shpL_ints [] | (simp only [dres, up_same, Option.getD_some]; first | exact shpL_ints _ | exact shpT_ints _) | exact shpT_ints [] | assumption | decide | exact Or.inl ⟨by omega, by omega⟩ | exact Or.inr ⟨by omega, by omega⟩ | exact Or.inr ⟨by decide, by decide⟩ | exact ⟨by decide, by decide⟩ | exact ⟨by omega, by omega⟩ | exact ⟨by decide, by decide, by decide⟩ | rfl | (simp; omega) | (simp only [dres, Shp, Shps, and_self]; done))))
local macro_rules | `(tactic| walk_at "r") => `(tactic| ((conv => whnf); repeat' (first | (refine And.intro (by walk_at "sd") ?_; conv => whnf) | (refine Exists.intro _ (And.intro (by walk_at "lk") ?_); conv => whnf))))
local macro_rules | `(tactic| walk_at "br") => `(tactic| (refine cnd_i (fun hb => ?_) (fun hb => ?_) <;> (try dsimp only at hb) <;> (try simp only [dres, eqD_int, decide_eq_true_eq, decide_eq_false_iff_not, Bool.not_eq_true', Bool.not_eq_false'] at hb)))

abbrev Cell := Addr × Lay
structure Ins (M M1 : Cells) (pi pg : Addr) (zs : List Cell) : Prop where
  nd : (zs.map Prod.fst).Nodup
  at_ : ∀ z ∈ zs, M1 z.1 = some (.lst [.int z.2.1, .int z.2.2]) ∧ M z.1 = none ∧ z.1 ≠ pi ∧ z.1 ≠ pg
abbrev tR (zs : List Cell) : List D := zs.map fun z => D.ref z.1
theorem Ins.upd {M M1 : Cells} {pi pg a : Addr} {zs : List Cell} {c : D} (h : Ins M M1 pi pg zs) (ha : ∀ z ∈ zs, z.1 ≠ a) : Ins M (up M1 a c) pi pg zs :=
  ⟨h.nd, fun z hz => by obtain ⟨h1, h2⟩ := h.at_ z hz; exact ⟨by rw [up_ne (ha z hz)]; exact h1, h2⟩⟩
theorem Ins.fresh {M M1 : Cells} {pi pg a : Addr} {zs : List Cell} (h : Ins M M1 pi pg zs) (ha : M1 a = none) : ∀ z ∈ zs, z.1 ≠ a := fun z hz e => by
  have := (h.at_ z hz).1
  rw [e, ha] at this
  cases this
theorem Ins.snoc {M M1 : Cells} {pi pg a : Addr} {zs : List Cell} {q : Lay} (h : Ins M M1 pi pg zs) (ha : M1 a = none) (hM : M a = none) (h1 : a ≠ pi) (h2 : a ≠ pg) : Ins M (up M1 a (.lst [.int q.1, .int q.2])) pi pg (zs ++ [(a, q)]) := by
  have hf := h.fresh ha
  have h' := h.upd (c := .lst [.int q.1, .int q.2]) hf
  refine ⟨?_, fun z hz => ?_⟩
  · rw [List.map_append, List.nodup_append]
    refine ⟨h.nd, by simp, fun x hx y hy => ?_⟩
    obtain ⟨z, hz, rfl⟩ := List.mem_map.mp hx
    have : y = a := by simpa using hy
    rw [this]
    exact hf z hz
  · rcases List.mem_append.mp hz with hz | hz
    · exact h'.at_ z hz
    · rw [List.mem_singleton.mp hz]
      exact ⟨up_same, hM, h1, h2⟩
theorem Ins.set {M M1 : Cells} {pi pg a : Addr} {z1 z2 : List Cell} {q q' : Lay} (h : Ins M M1 pi pg (z1 ++ (a, q) :: z2)) : Ins M (up M1 a (.lst [.int q'.1, .int q'.2])) pi pg (z1 ++ (a, q') :: z2) := by
  have hn := h.nd
  refine ⟨by simpa using hn, fun z hz => ?_⟩
  have ha := h.at_ (a, q) (by simp)
  rw [List.map_append, List.map_cons, List.nodup_append] at hn
  obtain ⟨n1, n2, n3⟩ := hn
  rw [List.nodup_cons] at n2
  rcases List.mem_append.mp hz with hz | hz
  · have hza : z.1 ≠ a := n3 z.1 (List.mem_map_of_mem hz) a (by simp)
    obtain ⟨h1, h2⟩ := h.at_ z (List.mem_append_left _ hz)
    exact ⟨by rw [up_ne hza]; exact h1, h2⟩
  · rcases List.mem_cons.mp hz with rfl | hz
    · exact ⟨up_same, ha.2⟩
    · have hza : z.1 ≠ a := fun e => n2.1 (List.mem_map.mpr ⟨z, hz, e⟩)
      obtain ⟨h1, h2⟩ := h.at_ z (List.mem_append_right _ (List.mem_cons_of_mem _ hz))
      exact ⟨by rw [up_ne hza]; exact h1, h2⟩
theorem Ins.filter {M M1 : Cells} {pi pg : Addr} {zs : List Cell} (h : Ins M M1 pi pg zs) (c : Cell → Bool) : Ins M M1 pi pg (zs.filter c) :=
  ⟨(List.filter_sublist.map Prod.fst).nodup h.nd, fun z hz => h.at_ z (List.mem_filter.mp hz).1⟩
theorem Ins.home {M M1 : Cells} {pi pg p2 : Addr} {zs : List Cell} (h : Ins M M1 pi pg zs) (ha : ∀ z ∈ zs, z.1 ≠ p2) : Ins M M1 p2 pg zs :=
  ⟨h.nd, fun z hz => by obtain ⟨h1, h2, h3, h4⟩ := h.at_ z hz; exact ⟨h1, h2, ha z hz, h4⟩⟩
/-- dealing m out of the layers: what stays, the pieces, what is left of m -/
def dealF : List Lay → Int → List Lay × List Lay
  | [], _ => ([], [])
  | q :: r, m => let part := if q.1 < m then q.1 else m; ((q.1 - part, q.2) :: (dealF r (m - part)).1, (part, q.2) :: (dealF r (m - part)).2)
theorem deal_0 : ∀ (l : List Lay), OkL l → ((dealF l 0).1.filter fun q => decide (0 < q.1)) = l ∧ worth (dealF l 0).2 = 0
  | [], _ => ⟨rfl, rfl⟩
  | q :: r, h => by
    have hq := h q List.mem_cons_self
    obtain ⟨h1, h2⟩ := deal_0 r fun x hx => h x (List.mem_cons_of_mem _ hx)
    have e : (if q.1 < 0 then q.1 else 0) = 0 := if_neg (by omega)
    simp only [dealF, e, Int.sub_zero]
    refine ⟨?_, ?_⟩
    · rw [List.filter_cons, if_pos (by simpa using hq.1), h1]
    · simp only [worth, List.map_cons, List.sum_cons] at h2 ⊢
      omega
theorem deal_ok : ∀ (l : List Lay) (m : Int), OkL l → 0 ≤ m → m ≤ am l → ((dealF l m).1.filter fun q => decide (0 < q.1)) = (takF l m).1 ∧ worth (dealF l m).2 = (takF l m).2
  | [], m, h, h0, h1 => ⟨rfl, rfl⟩
  | q :: r, m, h, h0, h1 => by
    have hq := h q List.mem_cons_self
    have hr : OkL r := fun x hx => h x (List.mem_cons_of_mem _ hx)
    have ea : am (q :: r) = q.1 + am r := by simp [am]
    unfold takF
    by_cases z : m ≤ 0
    · obtain rfl : m = 0 := by omega
      rw [if_pos z]
      exact deal_0 _ h
    · rw [if_neg z]
      by_cases y : q.1 ≤ m
      · rw [if_pos y]
        have e : (if q.1 < m then q.1 else m) = q.1 := by split <;> omega
        obtain ⟨h1, h2⟩ := deal_ok r (m - q.1) hr (by omega) (by omega)
        simp only [dealF, e]
        refine ⟨?_, ?_⟩
        · rw [List.filter_cons, if_neg (by simp), h1]
        · simp only [worth, List.map_cons, List.sum_cons] at h2 ⊢
          omega
      · rw [if_neg y]
        have e : (if q.1 < m then q.1 else m) = m := by split <;> omega
        obtain ⟨h1, h2⟩ := deal_0 r hr
        simp only [dealF, e, Int.sub_self]
        refine ⟨?_, ?_⟩
        · rw [List.filter_cons, if_pos (by simp; omega), h1]
        · simp only [worth, List.map_cons, List.sum_cons] at h2 ⊢
          omega
theorem vc__law_pieces (xc) : Ok N__law_pieces (ph__law_pieces xc) (w__law_pieces xc) := ok1 fun a M Ed Qd h => by
  obtain ⟨s, rfl, hS, hq⟩ := h
  have hl := hS.len
  walk_at "r"
  intro pi hpi
  walk_at "r"
  intro pg hpg
  have hig : pi ≠ pg := fun z => by rw [← z, up_same] at hpg; cases hpg
  have hg : M pg = none := by rw [up_ne (Ne.symm hig)] at hpg; exact hpg
  walk_at "r"
  refine ForOk.typed (xs := s) (f := tDeed) (fun pre ρ M1 => ∃ pi zs gs x y z w, ρ = [some (tS s), some (.ref pi), some (.ref pg), some (.int (mostP pre).1), x, y, z, w] ∧ Le M M1 ∧ M pi = none ∧ pi ≠ pg ∧ M1 pi = some (.lst (tR zs)) ∧ M1 pg = some (.lst (tL gs)) ∧
      Ins M M1 pi pg zs ∧ zs.map Prod.snd = (goF pre).1 ∧ worth gs = (goF pre).2 ∧ (∀ q ∈ gs, 0 ≤ q.2 ∧ q.2 ≤ 999) ∧ gs.length ≤ 40 * pre.length)
    ⟨pi, [], [], none, none, none, none, rfl, ((Le.refl M).over hpi).over hg, hpi, hig, by rw [up_ne hig, up_same]; rfl, by rw [up_same]; rfl, ⟨by simp, fun z hz => by cases hz⟩, rfl, rfl, (fun q hq => by cases hq), by decide⟩
    (fun _ _ _ _ => by trivial) (fun pre d post ρ M1 e hI => ?_) (fun ρ M1 hI => ?_)
  · clear hpi hpg hig
    obtain ⟨pi, zs, gs, x, y, z, w, rfl, l, hpi, hig, hMi, hMg, hI, hzs, hgs, hgb, hgl⟩ := hI
    have hP : OkS pre := hS.pre e
    have hP2 : OkS (pre ++ [d]) := hS.pre (post := post) (by rw [e]; simp)
    obtain ⟨a1, a2, a3, a4, a5, a6⟩ := go_ok hP
    obtain ⟨b1, b2, b3, b4, b5, b6⟩ := go_ok hP2
    have hd := hS.okd d (by rw [e]; simp)
    have hpl := hP.len
    have hzl : zs.length ≤ 40 := by
      have := congrArg List.length hzs
      rw [List.length_map] at this
      omega
    have ecI : lstC (M1 pi) = some (tR zs) := by rw [hMi]; rfl
    have ecA : asL M1 (.ref pi) = some (tR zs) := ecI
    obtain ⟨m, o⟩ := d
    obtain ⟨d1, d2, d3⟩ := hd
    cases o with
    | some o =>
      walk_at "r"
      intro p hp
      have hpf := hI.fresh hp
      have hppi : p ≠ pi := fun z => by rw [z, hMi] at hp; cases hp
      have hppg : p ≠ pg := fun z => by rw [z, hMg] at hp; cases hp
      have ec2 : lstC (up M1 p (.lst [.int m, .int o]) pi) = some (tR zs) := by rw [up_ne (Ne.symm hppi)]; exact ecI
      have hI2 := (hI.snoc (q := (m, o)) hp (le_none l hp) hppi hppg).upd (a := pi) (c := .lst (tR zs ++ [.ref p])) (fun z hz => by
        rcases List.mem_append.mp hz with hz | hz
        · exact (hI.at_ z hz).2.2.1
        · rw [List.mem_singleton.mp hz]; exact hppi)
      have hMi2 : up (up M1 p (.lst [.int m, .int o])) pi (.lst (tR zs ++ [.ref p])) pi = some (.lst (tR (zs ++ [(p, (m, o))]))) := by rw [up_same]; simp
      have hMg2 : up (up M1 p (.lst [.int m, .int o])) pi (.lst (tR zs ++ [.ref p])) pg = some (.lst (tL gs)) := by rw [up_ne (Ne.symm hig), up_ne (Ne.symm hppg)]; exact hMg
      have l2 : Le M (up (up M1 p (.lst [.int m, .int o])) pi (.lst (tR zs ++ [.ref p]))) := (l.trans (le_over hp)).over hpi
      walk_at "r"
      generalize up (up M1 p (.lst [.int m, .int o])) pi (.lst (tR zs ++ [.ref p])) = M2 at *
      rw [show tR zs ++ [D.ref p] = tR (zs ++ [(p, (m, o))]) from by simp]
      have hzs2 : (zs ++ [(p, (m, o))]).map Prod.snd = (goF (pre ++ [(m, some o)])).1 := by rw [goF_app, List.map_append, hzs]; rfl
      have hgs2 : worth gs = (goF (pre ++ [(m, some o)])).2 := by rw [goF_app, hgs]; rfl
      have hmost : (mostP (pre ++ [(m, some o)])).1 = max (mostP pre).1 ((((goF (pre ++ [(m, some o)])).1).map Prod.fst).sum) := by
        rw [mostP_app]
        show max _ ((mostP pre).2 + sg (m, some o)) = max _ (am (goF (pre ++ [(m, some o)])).1)
        rw [b2, tot_app, a5]
      have hzl2 : (zs ++ [(p, (m, o))]).length ≤ 41 := by simp; omega
      have hgl2 : gs.length ≤ 40 * (pre ++ [(m, some o)]).length := by simp; omega
      have hgb2 := hgb
      have hpi2 := hpi
      have hig2 := hig
      clear hMi hMg hI hzs hgs hp hpf hppi hppg ec2 ecI ecA l hzl hgl hgb
      generalize zs ++ [(p, (m, o))] = zs2 at *
      generalize gs = gs2 at *
      generalize pi = pi2 at *
      intro q hq2
      have hqi : pi2 ≠ q := fun z => by rw [← z, hMi2] at hq2; cases hq2
      have hqf := hI2.fresh hq2
      refine LcOk.map (xs := zs2) (f := fun z => D.ref z.1) (fun z => .int z.2.1) hq2 (fun _ => by rw [up_ne hqi]; exact hMi2) (lenE _ (by omega)) (fun z hz c Qy hy => ?_) ?_
      · have e1 : asQ (up M2 q c) (.ref z.1) = some [.int z.2.1, .int z.2.2] := by show lstC (up M2 q c z.1) = _; rw [up_ne (hqf z hz), (hI2.at_ z hz).1]; rfl
        walk_at "r"
        exact hy
      · refine ⟨M2, le_over hq2, hq2, ?_⟩
        rw [show zs2.map (fun z => D.int z.2.1) = ((zs2.map Prod.snd).map Prod.fst).map D.int from by simp, hzs2]
        walk_at "r"
        rw [max_if, hmost]
        exact ⟨pi2, zs2, gs2, _, _, _, _, rfl, l2, hpi2, hig2, hMi2, hMg2, hI2, hzs2, hgs2, hgb2, hgl2⟩
    | none =>
      have hm0 : 0 ≤ m := by have : (1:Int) ≤ m := d1; omega
      have hm9 : m ≤ 999 := d2
      have ht := hP2.tot
      rw [tot_app] at ht
      have hma : m ≤ am (zs.map Prod.snd) := by rw [hzs, a2]; simp only [sg] at ht; omega
      have hlo : OkL (zs.map Prod.snd) := by rw [hzs]; exact a1
      walk_at "r"
      refine ForOk.typed (xs := zs) (f := fun z => D.ref z.1) (fun pre2 ρ M2 => ∃ z1 z2 m' g1 y w, ρ = [some (tS s), some (.ref pi), some (.ref pg), some (.int (mostP pre).1), some (tDeed (m, none)), some (.int m'), y, w] ∧ Le M M2 ∧ M2 pi = some (.lst (tR zs)) ∧ M2 pg = some (.lst (tL (gs ++ g1))) ∧
          Ins M M2 pi pg (z1 ++ z2) ∧ z1.map Prod.fst ++ z2.map Prod.fst = zs.map Prod.fst ∧ z1.length = pre2.length ∧ (dealF (zs.map Prod.snd) m).1 = z1.map Prod.snd ++ (dealF (z2.map Prod.snd) m').1 ∧ (dealF (zs.map Prod.snd) m).2 = g1 ++ (dealF (z2.map Prod.snd) m').2 ∧
          (∀ z ∈ z2, 0 ≤ z.2.2 ∧ z.2.2 ≤ 999) ∧ (∀ q ∈ g1, 0 ≤ q.2 ∧ q.2 ≤ 999) ∧ g1.length = pre2.length)
        ⟨[], zs, m, [], _, _, rfl, l, hMi, by rw [List.append_nil]; exact hMg, hI, rfl, rfl, rfl, rfl, fun z hz => (hlo z.2 (List.mem_map_of_mem hz)).2.2, (fun q hq => by cases hq), rfl⟩ (fun pre2 ρ M2 h => ?_) (fun pre2 x post2 ρ M2 e2 h => ?_) (fun ρ M2 h => ?_)
      · obtain ⟨z1, z2, m', g1, y, w, _, _, h1, _⟩ := h
        exact h1
      · obtain ⟨z1, z2, m', g1, y', w', rfl, l, hMi, hMg, hI, f1, f2, f3, f4, f5, f6, f7⟩ := h
        have f8 : z1.map Prod.fst ++ z2.map Prod.fst = pre2.map Prod.fst ++ x.1 :: post2.map Prod.fst := by rw [f1, e2]; simp
        obtain ⟨_, f9⟩ := List.append_inj f8 (by simp [f2])
        cases z2 with
        | nil => cases f9
        | cons q z2 =>
          obtain ⟨qa, q⟩ := q
          simp only [List.map_cons, List.cons.injEq] at f9
          obtain ⟨rfl, _⟩ := f9
          have hx := hI.at_ (x.1, q) (by simp)
          have hxg : x.1 ≠ pg := hx.2.2.2
          have hgl1 : g1.length ≤ 40 := by
            have := congrArg List.length e2
            simp at this
            omega
          have hgl0 : gs.length ≤ 1600 := by omega
          have eL : asQ M2 (.ref x.1) = some [.int q.1, .int q.2] := by show lstC (M2 x.1) = _; rw [hx.1]; rfl
          have eG : asL M2 (.ref pg) = some (tL (gs ++ g1)) := by show lstC (M2 pg) = _; rw [hMg]; rfl
          have eG2 : lstC (M2 pg) = some (tL (gs ++ g1)) := eG
          walk_at "r"
          obtain ⟨part, hpart⟩ : ∃ part, part = (if q.1 < m' then q.1 else m') := ⟨_, rfl⟩
          rw [← hpart]
          have eL3 : asQ (up M2 pg (.lst (tL (gs ++ g1) ++ [.tup [.int part, .int q.2]]))) (.ref x.1) = some [.int q.1, .int q.2] := by show lstC (up M2 pg _ x.1) = _; rw [up_ne hxg, hx.1]; rfl
          have eL4 : lstC (up M2 pg (.lst (tL (gs ++ g1) ++ [.tup [.int part, .int q.2]])) x.1) = some [.int q.1, .int q.2] := eL3
          walk_at "r"
          have hI3 := (hI.upd (a := pg) (c := .lst (tL (gs ++ g1) ++ [.tup [.int part, .int q.2]])) fun z hz => (hI.at_ z hz).2.2.2).set (q' := (q.1 - part, q.2))
          have ed : dealF (((x.1, q) :: z2).map Prod.snd) m' = ((q.1 - part, q.2) :: (dealF (z2.map Prod.snd) (m' - part)).1, (part, q.2) :: (dealF (z2.map Prod.snd) (m' - part)).2) := by
            rw [hpart]; rfl
          rw [ed] at f3 f4
          refine ⟨z1 ++ [(x.1, (q.1 - part, q.2))], z2, m' - part, g1 ++ [(part, q.2)], _, _, rfl, (l.over hg).over hx.2.1, ?_, ?_, ?_, ?_, ?_, ?_, ?_, ?_, ?_, ?_⟩
          · rw [up_ne (Ne.symm hx.2.2.1), up_ne hig]; exact hMi
          · rw [up_ne (Ne.symm hxg), up_same]; simp
          · rw [List.append_assoc]; exact hI3
          · rw [← f1]; simp
          · simp [f2]
          · rw [f3]; simp
          · rw [f4]; simp
          · exact fun z hz => f5 z (List.mem_cons_of_mem _ hz)
          · intro c hc
            rcases List.mem_append.mp hc with hc | hc
            · exact f6 c hc
            · rw [List.mem_singleton.mp hc]
              exact f5 (x.1, q) List.mem_cons_self
          · simp [f7]
      · obtain ⟨z1, z2, m', g1, y', w', rfl, l, hMi, hMg, hI, f1, f2, f3, f4, f5, f6, f7⟩ := h
        obtain rfl : z2 = [] := by
          have := congrArg List.length f1
          simp at this
          exact List.length_eq_zero_iff.mp (by omega)
        obtain ⟨k1, k2⟩ := deal_ok (zs.map Prod.snd) m hlo hm0 hma
        rw [f3, hzs] at k1
        rw [f4, hzs] at k2
        simp only [List.map_nil, dealF, List.append_nil] at k1 k2 f1 hI
        have eR : tR zs = tR z1 := by
          rw [show tR zs = (zs.map Prod.fst).map D.ref from by simp, ← f1]; simp
        rw [eR] at hMi
        have hMi' : lstC (M2 pi) = some (tR z1) := by rw [hMi]; rfl
        have hz1 : z1.length ≤ 40 := by omega
        walk_at "r"
        intro p2 hp2
        have hp2f := hI.fresh hp2
        have hp2i : pi ≠ p2 := fun z => by rw [← z, hMi] at hp2; cases hp2
        have hp2g : pg ≠ p2 := fun z => by rw [← z, hMg] at hp2; cases hp2
        refine LcOk.fmap (xs := z1) (f := fun z => D.ref z.1) (fun z => if decide (0 < z.2.1) then some (D.ref z.1) else none) hp2 (fun _ => by rw [up_ne hp2i]; exact hMi) (lenE _ (by omega)) (fun z hz c Qy Qn g1 g2 => ?_) ?_
        · have e1 : asQ (up M2 p2 c) (.ref z.1) = some [.int z.2.1, .int z.2.2] := by show lstC (up M2 p2 c z.1) = _; rw [up_ne (hp2f z hz), (hI.at_ z hz).1]; rfl
          walk_at "r"
          walk_at "br"
          · rename_i hb
            walk_at "r"
            exact g1 _ (if_pos (decide_eq_true hb))
          · rename_i hb
            exact g2 (if_neg (by rw [decide_eq_false hb]; decide))
        · rw [fm_if (fun z : Cell => decide (0 < z.2.1)) fun z : Cell => D.ref z.1]
          have hzs2 : (z1.filter fun z => decide (0 < z.2.1)).map Prod.snd = (goF (pre ++ [(m, none)])).1 := by
            rw [goF_app]
            show _ = (takF (goF pre).1 m).1
            rw [← k1, List.filter_map]
            rfl
          have hzl2 : (z1.filter fun z => decide (0 < z.2.1)).length ≤ 41 := Nat.le_trans (List.length_filter_le _ _) (by omega)
          have hI2 := (((hI.filter fun z => decide (0 < z.2.1)).upd (a := p2) (c := .lst (tR (z1.filter fun z => decide (0 < z.2.1)))) fun z hz => hp2f z (List.mem_filter.mp hz).1).home (p2 := p2) fun z hz => hp2f z (List.mem_filter.mp hz).1)
          have hMi2 : up M2 p2 (.lst (tR (z1.filter fun z => decide (0 < z.2.1)))) p2 = some (.lst (tR (z1.filter fun z => decide (0 < z.2.1)))) := up_same
          have hMg2 : up M2 p2 (.lst (tR (z1.filter fun z => decide (0 < z.2.1)))) pg = some (.lst (tL (gs ++ g1))) := by rw [up_ne hp2g]; exact hMg
          have l2 : Le M (up M2 p2 (.lst (tR (z1.filter fun z => decide (0 < z.2.1))))) := l.trans (le_over hp2)
          have hgs2 : worth (gs ++ g1) = (goF (pre ++ [(m, none)])).2 := by
            rw [goF_app]
            show _ = (goF pre).2 + (takF (goF pre).1 m).2
            rw [← k2, ← hgs]; simp [worth]
          have hgb2 : ∀ q ∈ gs ++ g1, 0 ≤ q.2 ∧ q.2 ≤ 999 := fun q hq => by
            rcases List.mem_append.mp hq with hq | hq
            · exact hgb q hq
            · exact f6 q hq
          have hgl2 : (gs ++ g1).length ≤ 40 * (pre ++ [(m, (none : Option Int))]).length := by simp; omega
          have hmost : (mostP (pre ++ [(m, none)])).1 = max (mostP pre).1 ((((goF (pre ++ [(m, none)])).1).map Prod.fst).sum) := by
            rw [mostP_app]
            show max _ ((mostP pre).2 + sg (m, none)) = max _ (am (goF (pre ++ [(m, none)])).1)
            rw [b2, tot_app, a5]
          have hpi2 : M p2 = none := le_none l hp2
          have hig2 : p2 ≠ pg := Ne.symm hp2g
          walk_at "r"
          generalize up M2 p2 (.lst (tR (z1.filter fun z => decide (0 < z.2.1)))) = M3 at *
          clear hI hMi hMg l
          generalize (z1.filter fun z => decide (0 < z.2.1)) = zs2 at *
          generalize gs ++ g1 = gs2 at *
          clear hpi hig
          generalize p2 = pi2 at *
          clear hp2f hp2i
          intro q hq2
          have hqi : pi2 ≠ q := fun z => by rw [← z, hMi2] at hq2; cases hq2
          have hqf := hI2.fresh hq2
          refine LcOk.map (xs := zs2) (f := fun z => D.ref z.1) (fun z => .int z.2.1) hq2 (fun _ => by rw [up_ne hqi]; exact hMi2) (lenE _ (by omega)) (fun z hz c Qy hy => ?_) ?_
          · have e1 : asQ (up M3 q c) (.ref z.1) = some [.int z.2.1, .int z.2.2] := by show lstC (up M3 q c z.1) = _; rw [up_ne (hqf z hz), (hI2.at_ z hz).1]; rfl
            walk_at "r"
            exact hy
          · refine ⟨M3, le_over hq2, hq2, ?_⟩
            rw [show zs2.map (fun z => D.int z.2.1) = ((zs2.map Prod.snd).map Prod.fst).map D.int from by simp, hzs2]
            walk_at "r"
            rw [max_if, hmost]
            exact ⟨pi2, zs2, gs2, _, _, _, _, rfl, l2, hpi2, hig2, hMi2, hMg2, hI2, hzs2, hgs2, hgb2, hgl2⟩
  · obtain ⟨pi, zs, gs, x, y, z, w, rfl, l, hpi, hig, hMi, hMg, hI, hzs, hgs, hgb, hgl⟩ := hI
    have hzl : zs.length ≤ 40 := by
      have := congrArg List.length hzs
      rw [List.length_map] at this
      have := (go_ok hS).2.2.2.1
      omega
    have ecI : lstC (M1 pi) = some (tR zs) := by rw [hMi]; rfl
    walk_at "r"
    intro q hq2
    have hqi : pi ≠ q := fun z => by rw [← z, hMi] at hq2; cases hq2
    have hqf := hI.fresh hq2
    refine LcOk.map (xs := zs) (f := fun z => D.ref z.1) (fun z => tLay z.2) hq2 (fun _ => by rw [up_ne hqi]; exact hMi) (lenE _ (by omega)) (fun z hz c Qy hy => ?_) ?_
    · have e1 : asQ (up M1 q c) (.ref z.1) = some [.int z.2.1, .int z.2.2] := by show lstC (up M1 q c z.1) = _; rw [up_ne (hqf z hz), (hI.at_ z hz).1]; rfl
      walk_at "r"
      exact hy
    · refine ⟨M1, le_over hq2, hq2, ?_⟩
      rw [show zs.map (fun z => tLay z.2) = tL (goF s).1 from by rw [← hzs]; simp [tL]]
      walk_at "r"
      exact QLe.i (hq M1 pg gs l hMg hgs hgb (by omega))
end K66

set_option Elab.async false
set_option linter.all false
set_option maxRecDepth 100000
set_option maxHeartbeats 4000000
namespace K66
open PySem PySem.Spec PyProof.Rows L2 DL
theorem shp_gate {n : Nat} {d : D} (h : Shp n d) : Shp n d := h
theorem shps_gate {n : Nat} {ds : List D} (h : Shps n ds) : Shps n ds := h
local macro_rules | `(tactic| walk_at "sh") => `(tactic| (first | (with_reducible refine shp_gate ?_; (try dsimp only [dres]); first | with_reducible assumption | exact shp_int _ | exact shpT_ints _ | exact shpL_ints _ | exact shp_non | exact shp_bl _ | exact shp_str (by assumption) | exact shp_str (by decide +kernel) | (refine shpL ?_; walk_at "sh") | (refine shpT ?_; walk_at "sh") | (simp only [dres, up_same, Option.getD_some]; first | with_reducible assumption | exact shpL_ints _ | exact shpT_ints _)) | (with_reducible refine shps_gate ?_; first | exact shps_nil | (refine shps_cons ?_ ?_ <;> walk_at "sh"))))
local macro_rules | `(tactic| walk_at "g") => `(tactic| (conv => whnf))
local macro_rules | `(tactic| walk_at "lk") => `(tactic| (first | with_reducible assumption | with_reducible rfl | rfl | assumption | (simp only [asQ, asL, lstC, up_same]; first | rfl | assumption) | (simp only [dres, up_same, Option.getD_some]; rfl)))
local macro_rules | `(tactic| walk_at "sd") => `(tactic| (first | with_reducible rfl | walk_at "sh" | ((try dsimp only); done) | ((try dsimp only); first | with_reducible rfl | with_reducible assumption | exact True.intro | omega | (refine lenE _ ?_; exact Nat.le_of_ble_eq_true rfl) | (refine lenE _ ?_; omega) | (refine lenE _ ?_; simp; omega) | (refine ltE _ ?_; simp; omega) | exact ⟨rfl, _, by walk_at "lk"⟩ | assumption | decide | exact Or.inl ⟨by omega, by omega⟩ | exact Or.inr ⟨by omega, by omega⟩ | exact Or.inr ⟨by decide, by decide⟩ | exact ⟨by decide, by decide⟩ | exact ⟨by omega, by omega⟩ | exact ⟨by decide, by decide, by decide⟩ | rfl | (simp; omega))))
local macro_rules | `(tactic| walk_at "r") => `(tactic| ((conv => whnf); repeat' (first | (refine And.intro (by walk_at "sd") ?_; conv => whnf) | (refine Exists.intro _ (And.intro (by walk_at "lk") ?_); conv => whnf))))
local macro_rules | `(tactic| walk_at "br") => `(tactic| (refine cnd_i (fun hb => ?_) (fun hb => ?_) <;> (try dsimp only at hb) <;> (try simp only [dres, eqD_int, decide_eq_true_eq, decide_eq_false_iff_not, Bool.not_eq_true', Bool.not_eq_false'] at hb)))
theorem shpT_map {α : Type} {n : Nat} {f : α → D} (h : ∀ x, Shp n (f x)) (xs : List α) : Shp (n + 1) (.tup (xs.map f)) := shps_map h xs
theorem shp_lay {n : Nat} (q : Lay) : Shp (n + 1) (tLay q) := ⟨shp_int _, shp_int _, trivial⟩
def ins (s : List Deed) : List Lay := s.filterMap fun d => match d with | (m, some p) => some (m, p) | _ => none
theorem worth_ins : ∀ s : List Deed, worth (ins s) = came s
  | [] => rfl
  | (m, some p) :: s => by
    have := worth_ins s
    simp only [ins, worth, came, List.filterMap_cons, List.map_cons, List.sum_cons] at this ⊢
    omega
  | (m, none) :: s => by
    have := worth_ins s
    simp only [ins, worth, came, List.filterMap_cons, List.map_cons, List.sum_cons] at this ⊢
    omega
theorem ins_b {s : List Deed} (h : OkS s) : ∀ q ∈ ins s, 0 ≤ q.2 ∧ q.2 ≤ 999 := fun q hq => by
  obtain ⟨⟨m, o⟩, hd, e⟩ := List.mem_filterMap.mp hq
  cases o with
  | none => cases e
  | some p => cases e; exact (h.okd _ hd).2.2 p rfl
theorem atI_last {α : Type} {xs : List α} {f : α → D} {x : α} : atI ((xs ++ [x]).map f) (-1) = some (f x) := by
  unfold atI ixN
  rw [if_neg (by decide), if_pos (by simp; omega)]
  have : ((-1 : Int) + (((xs ++ [x]).map f).length : Nat)).toNat = xs.length := by simp; omega
  show ((xs ++ [x]).map f)[((-1 : Int) + (((xs ++ [x]).map f).length : Nat)).toNat]? = _
  rw [this]
  simp
theorem ins_map (s : List Deed) : (s.filterMap fun d => match d with | (m, some p) => some (tLay (m, p)) | _ => none) = tL (ins s) := by
  unfold ins tL
  rw [List.map_filterMap]
  congr 1
  funext d
  obtain ⟨m, o⟩ := d
  cases o <;> rfl
theorem vc__law_stock_right (xc) : Ok N__law_stock_right (ph__law_stock_right xc) (w__law_stock_right xc) := ok2 fun a b M Ed Qd h => by
  obtain ⟨h0, rfl, ⟨c0, hM, hc0⟩, s, rfl, hS, hs20, hq⟩ := onRef_ok h
  clear h
  obtain ⟨a1, a2, a3, a4, a5, a6⟩ := go_ok hS
  walk_at "r"
  intro M' g gs l hg hgs hgb hgl
  have hM' : M' h0 = some c0 := l _ _ hM
  have hA : HandAt M' h0 := ⟨c0, hM', hc0⟩
  walk_at "r"
  intro q hq2
  refine LcOk.map (xs := (goF s).1) (f := tLay) (fun q => .int q.1) hq2 (fun _ => by trivial) (lenE _ (by omega)) (fun d hd c Qy hy => ?_) ?_
  · walk_at "r"
    exact hy
  · refine ⟨M', le_over hq2, hq2, ?_⟩
    clear hq2 q
    rw [show (goF s).1.map (fun q => D.int q.1) = ((goF s).1.map Prod.fst).map D.int from by simp]
    have hsh : Shp 60 (.tup (tL (goF s).1)) := shpT_map (fun q => shp_lay q) _
    walk_at "r"
    refine cnd_f (ne_self _) ?_
    walk_at "r"
    refine cnd_f (ne_self _) ?_
    walk_at "r"
    refine cnd_f (ne_self _) ?_
    walk_at "r"
    refine ⟨(goF s).1, fun _ _ _ => rfl, rfl, fun q hq => (a1 q hq).2.2, by omega, ?_⟩
    walk_at "r"
    refine cnd_f (ne_self _) ?_
    walk_at "r"
    refine ⟨gs, fun c p hp => ?_, ?_, hgb, hgl, ?_⟩
    · show lstC (up M' p c g) = _
      rw [up_ne (fun z => by rw [z, hp] at hg; cases hg), hg]; rfl
    · show lstC (M' g) = _
      rw [hg]; rfl
    rw [hgs]
    walk_at "r"
    refine cnd_f (ne_self _) ?_
    walk_at "r"
    intro q hq2
    refine LcOk.fmap (xs := s) (f := tDeed) (fun d => match d with | (m, some p) => some (tLay (m, p)) | _ => none) hq2 (fun _ => by trivial) (lenE _ (by omega)) (fun d hd c Qy Qn g1 g2 => ?_) ?_
    · obtain ⟨m, o⟩ := d
      cases o with
      | some o =>
        walk_at "r"
        exact g1 _ rfl
      | none =>
        walk_at "r"
        exact g2 rfl
    · refine ⟨M', le_over hq2, hq2, ?_⟩
      clear hq2 q
      rw [ins_map]
      have hil : (ins s).length ≤ 40 := Nat.le_trans (List.length_filterMap_le _ _) hS.len
      walk_at "r"
      refine ⟨ins s, fun _ _ _ => rfl, rfl, ins_b hS, by omega, ?_⟩
      rw [worth_ins, ← a3]
      walk_at "r"
      refine cnd_f (ne_self _) ?_
      walk_at "r"
      intro k1 c1 hk10 hk11 hc1
      have hA : HandAt (up M' h0 c1) h0 := ⟨c1, up_same, hc1⟩
      walk_at "r"
      intro k2 c2 hk20 hk21 hc2
      rw [up_up]
      have ed : s.map tDeed ++ [.tup [.str "in", .int (1 + k1), .int k2]] = (s ++ [(1 + k1, some k2)]).map tDeed := by simp; rfl
      have hS2 : OkS (s ++ [(1 + k1, some k2)]) := hS.snoc (by omega) ⟨by show (1:Int) ≤ 1 + k1; omega, by show (1:Int) + k1 ≤ 999; omega, fun p z => by cases z; exact ⟨hk20, by omega⟩⟩ (by rw [tot_app]; have := hS.tot; simp only [sg]; omega)
      have hsh2 : Shp 60 (.tup (tL (goF (s ++ [(1 + k1, some k2)])).1)) := shpT_map (fun q => shp_lay q) _
      have eL := atI_last (xs := s) (f := tDeed) (x := ((1 + k1, some k2) : Deed))
      have hlen : s.length ≤ 20 := hs20
      walk_at "r"
      rw [ed]
      have eg2 : (goF (s ++ [(1 + k1, some k2)])).2 = (goF s).2 := by rw [goF_app]; rfl
      have eg1 : tL (goF s).1 ++ [.tup [.int (1 + k1), .int k2]] = tL (goF (s ++ [(1 + k1, some k2)])).1 := by rw [goF_app]; simp [step, tL]
      generalize s ++ [(1 + k1, some k2)] = s2 at *
      have hgl1 : (tL (goF s).1).length ≤ 40 := by rw [List.length_map]; omega
      walk_at "r"
      rw [eg1]
      walk_at "r"
      refine cnd_f (ne_self _) ?_
      walk_at "r"
      rw [eg2]
      refine cnd_f (ne_self _) ?_
      walk_at "r"
      walk_at "br"
      · rename_i hb1
        walk_at "br"
        · rename_i hb2
          walk_at "r"
          exact QLe.of l.up (hq c2 hc2)
        · rename_i hb2
          have esum : ((goF s).1.map Prod.fst).sum = am (goF s).1 := rfl
          have ed2 : s.map tDeed ++ [.tup [.str "out", .int ((goF s).1.map Prod.fst).sum]] = (s ++ [((((goF s).1.map Prod.fst).sum : Int), (none : Option Int))]).map tDeed := by simp; rfl
          have hS3 : OkS (s ++ [((((goF s).1.map Prod.fst).sum : Int), (none : Option Int))]) := hS.snoc (by omega) ⟨by show (1:Int) ≤ ((goF s).1.map Prod.fst).sum; omega, by show ((goF s).1.map Prod.fst).sum ≤ (999:Int); omega, fun p z => by cases z⟩ (by rw [tot_app]; simp only [sg]; rw [esum, a2]; omega)
          have eg3 : goF (s ++ [((((goF s).1.map Prod.fst).sum : Int), (none : Option Int))]) = ([], (goF s).2 + worth (goF s).1) := by
            rw [goF_app]
            show ((takF (goF s).1 (am (goF s).1)).1, (goF s).2 + (takF (goF s).1 (am (goF s).1)).2) = _
            rw [takF_all _ a1]
          have em3 : (mostP (s ++ [((((goF s).1.map Prod.fst).sum : Int), (none : Option Int))])).1 = (mostP s).1 := by
            rw [mostP_app]
            show max (mostP s).1 ((mostP s).2 + sg (am (goF s).1, none)) = _
            rw [a5, a2]
            simp only [sg]
            omega
          walk_at "r"
          rw [ed2]
          generalize s ++ [((((goF s).1.map Prod.fst).sum : Int), (none : Option Int))] = s3 at *
          walk_at "r"
          rw [eg3]
          walk_at "r"
          rw [eg3]
          walk_at "r"
          rw [eg3]
          refine cnd_t ((eqD_int _ _).trans (decide_eq_true (by show (goF s).2 + worth (goF s).1 = worth (goF s).1 + (goF s).2; omega))) ?_
          walk_at "r"
          rw [em3, eqD_refl]
          exact QLe.of l.up (hq c2 hc2)
      · rename_i hb1
        walk_at "r"
        exact QLe.of l.up (hq c2 hc2)
abbrev lit : List Deed := [(5, some 2), (3, some 4), (6, none), (1, some 9)]
theorem nn_take {s : List Deed} (h : ∀ k, k ≤ s.length → 0 ≤ tot (s.take k)) : ∀ pre post, s = pre ++ post → 0 ≤ tot pre := fun pre post e => by
  have := h pre.length (by rw [e]; simp)
  rw [e, List.take_left] at this
  exact this
theorem ok_lit : OkS lit := ⟨by decide, fun d hd => by
  simp only [lit, List.mem_cons, List.not_mem_nil, or_false] at hd
  rcases hd with rfl | rfl | rfl | rfl <;> exact ⟨by decide, by decide, fun p z => by cases z <;> decide⟩, nn_take (by decide)⟩
theorem ok_nil : OkS [] := ⟨by decide, (fun d hd => by cases hd), nn_take (by decide)⟩
theorem go_lit : goF lit = ([(2, 4), (1, 9)], 14) := by decide +kernel
theorem most_lit : mostP lit = (8, 3) := by decide +kernel
theorem vc_law (xc) : Ok N_law (ph_law xc) (w_law xc) := ok1 fun a M Ed Qd h => by
  obtain ⟨ns, rfl, hl, hq⟩ := h
  have hshl : Shp 60 (.tup (tL [(2, 4), (1, 9)])) := shpT_map (fun q => shp_lay q) _
  walk_at "r"
  intro p c hp hc
  have hA : HandAt (up M p c) p := ⟨c, up_same, hc⟩
  walk_at "r"
  refine ⟨lit, rfl, ok_lit, ?_⟩
  walk_at "g"
  rw [go_lit]
  walk_at "r"
  refine ⟨lit, rfl, ok_lit, ?_⟩
  walk_at "g"
  rw [go_lit]
  walk_at "r"
  refine ⟨lit, rfl, ok_lit, ?_⟩
  walk_at "g"
  rw [go_lit]
  walk_at "r"
  refine ⟨lit, rfl, ok_lit, ?_⟩
  walk_at "g"
  rw [go_lit]
  walk_at "r"
  refine ⟨lit, rfl, ok_lit, ?_⟩
  walk_at "g"
  rw [most_lit]
  walk_at "r"
  refine ⟨[], rfl, ok_nil, ?_⟩
  walk_at "r"
  refine ⟨[], rfl, ok_nil, ?_⟩
  walk_at "r"
  refine ⟨[], rfl, ok_nil, ?_⟩
  walk_at "r"
  refine ⟨[], rfl, ok_nil, ?_⟩
  walk_at "r"
  refine ForOk.typed (xs := List.range _) (f := fun k : Nat => D.int (k : Nat)) (fun pre ρ M1 => ∃ x c y, ρ = [some (.ro (ns.map D.int)), some (.ref p), y, x] ∧ M1 = up M p c ∧ HandC c)
    ⟨none, c, _, rfl, rfl, hc⟩ (fun _ _ _ _ => by trivial) (fun pre x post ρ M1 e hI => ?_) (fun ρ M1 hI => ?_)
  · obtain ⟨x1, c, y, rfl, rfl, hc⟩ := hI
    have hA : HandAt (up M p c) p := ⟨c, up_same, hc⟩
    walk_at "r"
    intro s c1 hS hs hc1
    rw [up_up]
    have hA : HandAt (up M p c1) p := ⟨c1, up_same, hc1⟩
    walk_at "r"
    intro c2 hc2
    rw [up_up]
    walk_at "r"
    exact ⟨_, c2, _, rfl, rfl, hc2⟩
  · obtain ⟨x1, c, y, rfl, rfl, hc⟩ := hI
    walk_at "r"
    exact QLe.of (le_over hp) hq
theorem gl_sn {i j : Nat} {c : D} : ∀ ds ρ M E R, gwCons (gwSub (wVar i) (wC c) fSetL) (gwCons (gwName j) gwNil) ds ρ M E R → ds.length = 2 := fun ds ρ M E R h => by
  cases ds with
  | nil => exact h.elim
  | cons d ds =>
    have h : wVar i ρ M E fun o M1 => fSetL o c d M1 fun M3 => gwCons (gwName j) gwNil ds ρ M3 E R := h
    unfold wVar at h
    cases e : slot ρ i with
    | none => rw [e] at h; exact h.elim
    | some o =>
      rw [e] at h
      have h : fSetL o c d M fun M3 => gwCons (gwName j) gwNil ds ρ M3 E R := h
      unfold fSetL at h
      split at h
      · obtain ⟨_, _, _, _, h⟩ := h
        exact congrArg Nat.succ (gl_1 ds ρ _ E R h)
      · exact h.elim
end K66

set_option Elab.async false
set_option linter.all false
set_option maxRecDepth 100000
set_option maxHeartbeats 4000000
namespace K66
open PySem PySem.Spec PyProof.Rows L2 DL

def top (i : Nat) : Stmt := PySem.Challenge.pw_postshire_k66_whole_stamps_in_stock.main.body.getD i (.Pass ⟨0, 0, 0, 0⟩)
structure Txt (K : PySem.W.Frag) (mg : Str → Option Value) : Prop where
  z_abs : mg "abs" = none
  z_all : mg "all" = none
  z_bool : mg "bool" = none
  z_enumerate : mg "enumerate" = none
  z_int : mg "int" = none
  z_isinstance : mg "isinstance" = none
  z_len : mg "len" = none
  z_list : mg "list" = none
  z_max : mg "max" = none
  z_min : mg "min" = none
  z_range : mg "range" = none
  z_str : mg "str" = none
  z_sum : mg "sum" = none
  z_tuple : mg "tuple" = none
  c_IN : ∃ t, mg "IN" = some (.str "in" t)
  c_MOST_DEEDS : ∃ t, mg "MOST_DEEDS" = some (.int 40 t)
  c_MOST_MANY : ∃ t, mg "MOST_MANY" = some (.int 999 t)
  c_MOST_PRICE : ∃ t, mg "MOST_PRICE" = some (.int 999 t)
  c_OUT : ∃ t, mg "OUT" = some (.str "out" t)
section
variable {P : Program} {w : World} {K : PySem.W.Frag} {mg : Str → Option Value} {base : Heap}
abbrev s_is_integer : Stmt := top 1
theorem sc_is_integer : FnScope N_is_integer ["thing"] (defScope s_is_integer) := ⟨rfl, rfl, rfl, by decide +kernel, rfl, by decide +kernel, by decide +kernel⟩
theorem ln_is_integer {xc : Str → Addr} : ∀ ds M E Q, ph_is_integer xc ds M E Q → ds.length = 1 := ln1
theorem kn_is_integer (T : Txt K mg) (F : ∃ fd, FunD K "is_integer" "is_integer" (defArgs s_is_integer) (defBody s_is_integer) (defScope s_is_integer) [] [] (He.ga K "is_integer") fd) (gx : mg "is_integer" = some (.ref (He.ga K "is_integer")))  : Kn P w K mg base 1 "is_integer" 1 (ph_is_integer (He.ga K)) :=
  kn_of (ws := w_is_integer (He.ga K)) F gx sc_is_integer rfl (fun _ _ _ _ _ _ us hl => match us, hl with | [_], _ => rfl) (fun cdv A outer s H E hr =>
      (dss_one (ds_ret (de_and (d_callB call_isi (lc_2 lr_isi) T.z_isinstance (da_cons (de_var 0) (da_cons (de_ty (n := .int) T.z_int) da_nil))) (de_one (de_not (d_callB call_isi (lc_2 lr_isi) T.z_isinstance (da_cons (de_var 0) (da_cons (de_ty (n := .bool) T.z_bool) da_nil))))))))) (vc_is_integer (He.ga K))
abbrev s_is_within : Stmt := top 2
theorem sc_is_within : FnScope N_is_within ["thing", "low", "high"] (defScope s_is_within) := ⟨rfl, rfl, rfl, by decide +kernel, rfl, by decide +kernel, by decide +kernel⟩
theorem ln_is_within {xc : Str → Addr} : ∀ ds M E Q, ph_is_within xc ds M E Q → ds.length = 3 := ln3
theorem kn_is_within (T : Txt K mg) (F : ∃ fd, FunD K "is_within" "is_within" (defArgs s_is_within) (defBody s_is_within) (defScope s_is_within) [] [] (He.ga K "is_within") fd) (gx : mg "is_within" = some (.ref (He.ga K "is_within"))) (G_is_integer : Kn P w K mg base 1 "is_integer" 1 (ph_is_integer (He.ga K))) : Kn P w K mg base 2 "is_within" 3 (ph_is_within (He.ga K)) :=
  kn_of (ws := w_is_within (He.ga K)) F gx sc_is_within rfl (fun _ _ _ _ _ _ us hl => match us, hl with | [_, _, _], _ => rfl) (fun cdv A outer s H E hr =>
      (dss_one (ds_ret (de_and (d_def G_is_integer ln_is_integer (hr.mono (by decide)) lets_in (da_cons (de_var 0) da_nil)) (de_one (de_chain op_le lr_cmp op_le lr_cmp (de_var 1) (de_var 0) (de_var 2))))))) (vc_is_within (He.ga K))
abbrev s_is_deed : Stmt := top 14
theorem sc_is_deed : FnScope N_is_deed ["thing"] (defScope s_is_deed) := ⟨rfl, rfl, rfl, by decide +kernel, rfl, by decide +kernel, by decide +kernel⟩
theorem ln_is_deed {xc : Str → Addr} : ∀ ds M E Q, ph_is_deed xc ds M E Q → ds.length = 1 := ln1
theorem kn_is_deed (T : Txt K mg) (F : ∃ fd, FunD K "is_deed" "is_deed" (defArgs s_is_deed) (defBody s_is_deed) (defScope s_is_deed) [] [] (He.ga K "is_deed") fd) (gx : mg "is_deed" = some (.ref (He.ga K "is_deed"))) (G_is_within : Kn P w K mg base 2 "is_within" 3 (ph_is_within (He.ga K))) : Kn P w K mg base 3 "is_deed" 1 (ph_is_deed (He.ga K)) :=
  kn_of (ws := w_is_deed (He.ga K)) F gx sc_is_deed rfl (fun _ _ _ _ _ _ us hl => match us, hl with | [_], _ => rfl) (fun cdv A outer s H E hr =>
      (dss_cons (ds_if (dw_pt (dw_or (dt_not (dt_val (d_callB call_isi (lc_2 lr_isi) T.z_isinstance (da_cons (de_var 0) (da_cons (de_ty (n := .tuple) T.z_tuple) da_nil))))) (dw_or (dt_cmp op_lt lr_cmp (d_callB call_len (lc_1 lu_len) T.z_len (da_cons (de_var 0) da_nil)) de_int (nomark _)) (dw_or1 (dt_not (dt_val (d_callB call_isi (lc_2 lr_isi) T.z_isinstance (da_cons (d_ix (de_var 0) de_int) (da_cons (de_ty (n := .str) T.z_str) da_nil))))))))) (dss_one (ds_ret de_bl)) dss_nil)
      (dss_cons (ds_if (dt_not (dt_val (d_def G_is_within ln_is_within (hr.mono (by decide)) lets_in (da_cons (d_ix (de_var 0) de_int) (da_cons de_int (da_cons (de_gint T.c_MOST_MANY) da_nil)))))) (dss_one (ds_ret de_bl)) dss_nil)
      (dss_cons (ds_if (dt_cmp (op_eqD hr.units) lr_eq (d_ix (de_var 0) de_int) (de_gstr T.c_IN) (nomark _)) (dss_one (ds_ret (de_and (de_cmp (op_eqD hr.units) lr_eq (d_callB call_len (lc_1 lu_len) T.z_len (da_cons (de_var 0) da_nil)) de_int (nomark _)) (de_one (d_def G_is_within ln_is_within (hr.mono (by decide)) lets_in (da_cons (d_ix (de_var 0) de_int) (da_cons de_int (da_cons (de_gint T.c_MOST_PRICE) da_nil)))))))) dss_nil)
      (dss_one (ds_ret (de_and (de_cmp (op_eqD hr.units) lr_eq (d_ix (de_var 0) de_int) (de_gstr T.c_OUT) (nomark _)) (de_one (de_cmp (op_eqD hr.units) lr_eq (d_callB call_len (lc_1 lu_len) T.z_len (da_cons (de_var 0) da_nil)) de_int (nomark _)))))))))) (vc_is_deed (He.ga K))
abbrev s_check_stock : Stmt := top 15
theorem sc_check_stock : FnScope N_check_stock ["stock"] (defScope s_check_stock) := ⟨rfl, rfl, rfl, by decide +kernel, rfl, by decide +kernel, by decide +kernel⟩
theorem ln_check_stock {xc : Str → Addr} : ∀ ds M E Q, ph_check_stock xc ds M E Q → ds.length = 1 := ln1
theorem kn_check_stock (T : Txt K mg) (F : ∃ fd, FunD K "check_stock" "check_stock" (defArgs s_check_stock) (defBody s_check_stock) (defScope s_check_stock) [] [] (He.ga K "check_stock") fd) (gx : mg "check_stock" = some (.ref (He.ga K "check_stock"))) (G_is_deed : Kn P w K mg base 3 "is_deed" 1 (ph_is_deed (He.ga K))) : Kn P w K mg base 4 "check_stock" 1 (ph_check_stock (He.ga K)) :=
  kn_of (ws := w_check_stock (He.ga K)) F gx sc_check_stock rfl (fun _ _ _ _ _ _ us hl => match us, hl with | [_], _ => rfl) (fun cdv A outer s H E hr =>
      (dss_cons (ds_if (dw_pt (dw_or (dt_not (dt_val (d_callB call_isi (lc_2 lr_isi) T.z_isinstance (da_cons (de_var 0) (da_cons (de_ty (n := .tuple) T.z_tuple) da_nil))))) (dw_or (dt_cmp op_gt lr_cmp (d_callB call_len (lc_1 lu_len) T.z_len (da_cons (de_var 0) da_nil)) (de_gint T.c_MOST_DEEDS) (nomark _)) (dw_or1 (dt_not (dt_val (d_callB (cr_all rfl) (lc_1 lu_all) T.z_all (da_cons (de_lc rfl sc_check_stock.nd (di_seq (de_var 0)) (blkOk_by (own := [("deed", 3)]) (by rfl)) (fun _ _ _ _ _ => (dg_name sc_check_stock.nd)) (fun _ _ _ _ _ => dts_nil) (fun _ _ _ _ _ => (d_def G_is_deed ln_is_deed (hr.mono (by decide)) lets_blk (da_cons (de_var 3) da_nil)))) da_nil)))))))) (dss_one ds_never) dss_nil)
      (dss_cons (ds_asg de_int (dg_name sc_check_stock.nd))
      (dss_one (ds_for own_in rfl (di_enum T.z_enumerate (da_cons (de_var 0) da_nil)) (dg_tup (n := 2) rfl (dgs_cons (dg_name sc_check_stock.nd) (dgs_cons (dg_name sc_check_stock.nd) dgs_nil)) gl_2) (dss_cons (ds_asg (d_add (de_var 1) (de_ifE (dt_cmp (op_eqD hr.units) lr_eq (d_ix (de_var 3) de_int) (de_gstr T.c_IN) (nomark _)) (d_ix (de_var 3) de_int) (d_sub de_int (d_ix (de_var 3) de_int)))) (dg_name sc_check_stock.nd))
      (dss_one (ds_if (dt_cmp op_lt lr_cmp (de_var 1) de_int (nomark _)) (dss_one ds_never) dss_nil)))))))) (vc_check_stock (He.ga K))
abbrev s_taken : Stmt := top 16
theorem sc_taken : FnScope N_taken ["layers_told", "many", "spot"] (defScope s_taken) := ⟨rfl, rfl, rfl, by decide +kernel, rfl, by decide +kernel, by decide +kernel⟩
theorem ln_taken {xc : Str → Addr} : ∀ ds M E Q, ph_taken xc ds M E Q → ds.length = 3 := ln3
theorem kn_taken (T : Txt K mg) (F : ∃ fd, FunD K "taken" "taken" (defArgs s_taken) (defBody s_taken) (defScope s_taken) [] [] (He.ga K "taken") fd) (gx : mg "taken" = some (.ref (He.ga K "taken")))  : Kn P w K mg base 1 "taken" 3 (ph_taken (He.ga K)) :=
  kn_of (ws := w_taken (He.ga K)) F gx sc_taken rfl (fun _ _ _ _ _ _ us hl => match us, hl with | [_, _, _], _ => rfl) (fun cdv A outer s H E hr =>
      (dss_cons (ds_par (i := 3) (j := 4) rfl sc_taken.nd (da_cons (d_callTy call_list_of (lc_1 lu_listC) T.z_list (da_cons (de_var 0) da_nil)) (da_cons de_int da_nil)))
      (dss_cons (ds_while own_in (dt_cmp op_gt lr_cmp (de_var 1) de_int (nomark _)) (dss_cons (ds_asg (d_ix (de_var 3) (de_var 2)) (dg_tup (n := 2) rfl (dgs_cons (dg_name sc_taken.nd) (dgs_cons (dg_name sc_taken.nd) dgs_nil)) gl_2))
      (dss_cons (ds_asg (d_callB (call_min2 rfl) (lc_2 lr_min2) T.z_min (da_cons (de_var 1) (da_cons (de_var 5) da_nil))) (dg_name sc_taken.nd))
      (dss_cons (ds_par (i := 4) (j := 1) rfl sc_taken.nd (da_cons (d_add (de_var 4) (d_mul (de_var 7) (de_var 6))) (da_cons (d_sub (de_var 1) (de_var 7)) da_nil)))
      (dss_one (ds_if (dt_cmp (op_eqD hr.units) lr_eq (de_var 7) (de_var 5) (nomark _)) (dss_one (ds_expr (d_m PySem.F.plainAttrs_list PySem.F.slot_list_pop PySem.F.type_list_pop mt_popAt lm_popAt (de_var 3) (da_cons (de_var 2) da_nil)))) (dss_one (ds_asg (de_tup (da_cons (d_sub (de_var 5) (de_var 7)) (da_cons (de_var 6) da_nil))) (dg_sub (de_var 3) (de_var 2) set_list ls_setL)))))))))
      (dss_one (ds_ret (de_tup (da_cons (de_var 3) (da_cons (de_var 4) da_nil)))))))) (vc_taken (He.ga K))
abbrev s_gone_through : Stmt := top 17
theorem sc_gone_through : FnScope N_gone_through ["stock", "spot"] (defScope s_gone_through) := ⟨rfl, rfl, rfl, by decide +kernel, rfl, by decide +kernel, by decide +kernel⟩
theorem ln_gone_through {xc : Str → Addr} : ∀ ds M E Q, ph_gone_through xc ds M E Q → ds.length = 2 := ln2
theorem kn_gone_through (T : Txt K mg) (F : ∃ fd, FunD K "gone_through" "gone_through" (defArgs s_gone_through) (defBody s_gone_through) (defScope s_gone_through) [] [] (He.ga K "gone_through") fd) (gx : mg "gone_through" = some (.ref (He.ga K "gone_through"))) (G_taken : Kn P w K mg base 1 "taken" 3 (ph_taken (He.ga K))) : Kn P w K mg base 2 "gone_through" 2 (ph_gone_through (He.ga K)) :=
  kn_of (ws := w_gone_through (He.ga K)) F gx sc_gone_through rfl (fun _ _ _ _ _ _ us hl => match us, hl with | [_, _], _ => rfl) (fun cdv A outer s H E hr =>
      (dss_cons (ds_par (i := 2) (j := 3) rfl sc_gone_through.nd (da_cons (de_lstC da_nil) (da_cons de_int da_nil)))
      (dss_cons (ds_for own_in rfl (di_seq (de_var 0)) (dg_name sc_gone_through.nd) (dss_one (ds_if (dt_cmp (op_eqD hr.units) lr_eq (d_ix (de_var 4) de_int) (de_gstr T.c_IN) (nomark _)) (dss_one (ds_expr (d_append (de_var 2) (da_cons (de_tup (da_cons (d_ix (de_var 4) de_int) (da_cons (d_ix (de_var 4) de_int) da_nil))) da_nil)))) (dss_cons (ds_asg (d_def G_taken ln_taken (hr.mono (by decide)) lets_in (da_cons (de_var 2) (da_cons (d_ix (de_var 4) de_int) (da_cons (de_var 1) da_nil)))) (dg_tup (n := 2) rfl (dgs_cons (dg_name sc_gone_through.nd) (dgs_cons (dg_name sc_gone_through.nd) dgs_nil)) gl_2))
      (dss_one (ds_asg (d_add (de_var 3) (de_var 5)) (dg_name sc_gone_through.nd)))))))
      (dss_one (ds_ret (de_tup (da_cons (de_var 2) (da_cons (de_var 3) da_nil)))))))) (vc_gone_through (He.ga K))
abbrev s_there : Stmt := top 18
theorem sc_there : FnScope N_there ["stock"] (defScope s_there) := ⟨rfl, rfl, rfl, by decide +kernel, rfl, by decide +kernel, by decide +kernel⟩
theorem ln_there {xc : Str → Addr} : ∀ ds M E Q, ph_there xc ds M E Q → ds.length = 1 := ln1
theorem kn_there (T : Txt K mg) (F : ∃ fd, FunD K "there" "there" (defArgs s_there) (defBody s_there) (defScope s_there) [] [] (He.ga K "there") fd) (gx : mg "there" = some (.ref (He.ga K "there"))) (G_gone_through : Kn P w K mg base 2 "gone_through" 2 (ph_gone_through (He.ga K))) (G_check_stock : Kn P w K mg base 4 "check_stock" 1 (ph_check_stock (He.ga K))) : Kn P w K mg base 5 "there" 1 (ph_there (He.ga K)) :=
  kn_of (ws := w_there (He.ga K)) F gx sc_there rfl (fun _ _ _ _ _ _ us hl => match us, hl with | [_], _ => rfl) (fun cdv A outer s H E hr =>
      (dss_cons (ds_expr (d_def G_check_stock ln_check_stock (hr.mono (by decide)) lets_in (da_cons (de_var 0) da_nil)))
      (dss_one (ds_ret (d_callB (cr_sumA rfl) (lc_1 lu_sum) T.z_sum (da_cons (de_lc rfl sc_there.nd (di_seq (d_ix (d_def G_gone_through ln_gone_through (hr.mono (by decide)) lets_in (da_cons (de_var 0) (da_cons de_int da_nil))) de_int)) (blkOk_by (own := [("many", 1), ("price", 2)]) (by rfl)) (fun _ _ _ _ _ => (dg_tup (n := 2) rfl (dgs_cons (dg_name sc_there.nd) (dgs_cons (dg_name sc_there.nd) dgs_nil)) gl_2)) (fun _ _ _ _ _ => dts_nil) (fun _ _ _ _ _ => (de_var 1))) da_nil)))))) (vc_there (He.ga K))
abbrev s_cost_out : Stmt := top 19
theorem sc_cost_out : FnScope N_cost_out ["stock"] (defScope s_cost_out) := ⟨rfl, rfl, rfl, by decide +kernel, rfl, by decide +kernel, by decide +kernel⟩
theorem ln_cost_out {xc : Str → Addr} : ∀ ds M E Q, ph_cost_out xc ds M E Q → ds.length = 1 := ln1
theorem kn_cost_out (T : Txt K mg) (F : ∃ fd, FunD K "cost_out" "cost_out" (defArgs s_cost_out) (defBody s_cost_out) (defScope s_cost_out) [] [] (He.ga K "cost_out") fd) (gx : mg "cost_out" = some (.ref (He.ga K "cost_out"))) (G_gone_through : Kn P w K mg base 2 "gone_through" 2 (ph_gone_through (He.ga K))) (G_check_stock : Kn P w K mg base 4 "check_stock" 1 (ph_check_stock (He.ga K))) : Kn P w K mg base 5 "cost_out" 1 (ph_cost_out (He.ga K)) :=
  kn_of (ws := w_cost_out (He.ga K)) F gx sc_cost_out rfl (fun _ _ _ _ _ _ us hl => match us, hl with | [_], _ => rfl) (fun cdv A outer s H E hr =>
      (dss_cons (ds_expr (d_def G_check_stock ln_check_stock (hr.mono (by decide)) lets_in (da_cons (de_var 0) da_nil)))
      (dss_one (ds_ret (d_ix (d_def G_gone_through ln_gone_through (hr.mono (by decide)) lets_in (da_cons (de_var 0) (da_cons de_int da_nil))) de_int))))) (vc_cost_out (He.ga K))
abbrev s_worth_there : Stmt := top 20
theorem sc_worth_there : FnScope N_worth_there ["stock"] (defScope s_worth_there) := ⟨rfl, rfl, rfl, by decide +kernel, rfl, by decide +kernel, by decide +kernel⟩
theorem ln_worth_there {xc : Str → Addr} : ∀ ds M E Q, ph_worth_there xc ds M E Q → ds.length = 1 := ln1
theorem kn_worth_there (T : Txt K mg) (F : ∃ fd, FunD K "worth_there" "worth_there" (defArgs s_worth_there) (defBody s_worth_there) (defScope s_worth_there) [] [] (He.ga K "worth_there") fd) (gx : mg "worth_there" = some (.ref (He.ga K "worth_there"))) (G_gone_through : Kn P w K mg base 2 "gone_through" 2 (ph_gone_through (He.ga K))) (G_check_stock : Kn P w K mg base 4 "check_stock" 1 (ph_check_stock (He.ga K))) : Kn P w K mg base 5 "worth_there" 1 (ph_worth_there (He.ga K)) :=
  kn_of (ws := w_worth_there (He.ga K)) F gx sc_worth_there rfl (fun _ _ _ _ _ _ us hl => match us, hl with | [_], _ => rfl) (fun cdv A outer s H E hr =>
      (dss_cons (ds_expr (d_def G_check_stock ln_check_stock (hr.mono (by decide)) lets_in (da_cons (de_var 0) da_nil)))
      (dss_one (ds_ret (d_callB (cr_sumA rfl) (lc_1 lu_sum) T.z_sum (da_cons (de_lc rfl sc_worth_there.nd (di_seq (d_ix (d_def G_gone_through ln_gone_through (hr.mono (by decide)) lets_in (da_cons (de_var 0) (da_cons de_int da_nil))) de_int)) (blkOk_by (own := [("many", 1), ("price", 2)]) (by rfl)) (fun _ _ _ _ _ => (dg_tup (n := 2) rfl (dgs_cons (dg_name sc_worth_there.nd) (dgs_cons (dg_name sc_worth_there.nd) dgs_nil)) gl_2)) (fun _ _ _ _ _ => dts_nil) (fun _ _ _ _ _ => (d_mul (de_var 1) (de_var 2)))) da_nil)))))) (vc_worth_there (He.ga K))
abbrev s_layers : Stmt := top 21
theorem sc_layers : FnScope N_layers ["stock"] (defScope s_layers) := ⟨rfl, rfl, rfl, by decide +kernel, rfl, by decide +kernel, by decide +kernel⟩
theorem ln_layers {xc : Str → Addr} : ∀ ds M E Q, ph_layers xc ds M E Q → ds.length = 1 := ln1
theorem kn_layers (T : Txt K mg) (F : ∃ fd, FunD K "layers" "layers" (defArgs s_layers) (defBody s_layers) (defScope s_layers) [] [] (He.ga K "layers") fd) (gx : mg "layers" = some (.ref (He.ga K "layers"))) (G_gone_through : Kn P w K mg base 2 "gone_through" 2 (ph_gone_through (He.ga K))) (G_check_stock : Kn P w K mg base 4 "check_stock" 1 (ph_check_stock (He.ga K))) : Kn P w K mg base 5 "layers" 1 (ph_layers (He.ga K)) :=
  kn_of (ws := w_layers (He.ga K)) F gx sc_layers rfl (fun _ _ _ _ _ _ us hl => match us, hl with | [_], _ => rfl) (fun cdv A outer s H E hr =>
      (dss_cons (ds_expr (d_def G_check_stock ln_check_stock (hr.mono (by decide)) lets_in (da_cons (de_var 0) da_nil)))
      (dss_one (ds_ret (d_callTy call_tuple_of (lc_1 lu_tuple) T.z_tuple (da_cons (d_ix (d_def G_gone_through ln_gone_through (hr.mono (by decide)) lets_in (da_cons (de_var 0) (da_cons de_int da_nil))) de_int) da_nil)))))) (vc_layers (He.ga K))
abbrev s_most_there : Stmt := top 22
theorem sc_most_there : FnScope N_most_there ["stock"] (defScope s_most_there) := ⟨rfl, rfl, rfl, by decide +kernel, rfl, by decide +kernel, by decide +kernel⟩
theorem ln_most_there {xc : Str → Addr} : ∀ ds M E Q, ph_most_there xc ds M E Q → ds.length = 1 := ln1
theorem kn_most_there (T : Txt K mg) (F : ∃ fd, FunD K "most_there" "most_there" (defArgs s_most_there) (defBody s_most_there) (defScope s_most_there) [] [] (He.ga K "most_there") fd) (gx : mg "most_there" = some (.ref (He.ga K "most_there"))) (G_check_stock : Kn P w K mg base 4 "check_stock" 1 (ph_check_stock (He.ga K))) : Kn P w K mg base 5 "most_there" 1 (ph_most_there (He.ga K)) :=
  kn_of (ws := w_most_there (He.ga K)) F gx sc_most_there rfl (fun _ _ _ _ _ _ us hl => match us, hl with | [_], _ => rfl) (fun cdv A outer s H E hr =>
      (dss_cons (ds_expr (d_def G_check_stock ln_check_stock (hr.mono (by decide)) lets_in (da_cons (de_var 0) da_nil)))
      (dss_cons (ds_asg (de_tup (da_cons de_int (da_cons de_int da_nil))) (dg_tup (n := 2) rfl (dgs_cons (dg_name sc_most_there.nd) (dgs_cons (dg_name sc_most_there.nd) dgs_nil)) gl_2))
      (dss_cons (ds_for own_in rfl (di_seq (de_var 0)) (dg_name sc_most_there.nd) (dss_cons (ds_asg (d_add (de_var 2) (de_ifE (dt_cmp (op_eqD hr.units) lr_eq (d_ix (de_var 3) de_int) (de_gstr T.c_IN) (nomark _)) (d_ix (de_var 3) de_int) (d_sub de_int (d_ix (de_var 3) de_int)))) (dg_name sc_most_there.nd))
      (dss_one (ds_asg (d_callB (call_max2 rfl) (lc_2 lr_max2) T.z_max (da_cons (de_var 1) (da_cons (de_var 2) da_nil))) (dg_name sc_most_there.nd)))))
      (dss_one (ds_ret (de_var 1))))))) (vc_most_there (He.ga K))
abbrev s__law_hand : Stmt := top 24
theorem sc__law_hand : FnScope N__law_hand ["script"] (defScope s__law_hand) := ⟨rfl, rfl, rfl, by decide +kernel, rfl, by decide +kernel, by decide +kernel⟩
theorem ln__law_hand {xc : Str → Addr} : ∀ ds M E Q, ph__law_hand xc ds M E Q → ds.length = 1 := ln1
theorem kn__law_hand (T : Txt K mg) (F : ∃ fd, FunD K "_law_hand" "_law_hand" (defArgs s__law_hand) (defBody s__law_hand) (defScope s__law_hand) [] [] (He.ga K "_law_hand") fd) (gx : mg "_law_hand" = some (.ref (He.ga K "_law_hand")))  : Kn P w K mg base 1 "_law_hand" 1 (ph__law_hand (He.ga K)) :=
  kn_of (ws := w__law_hand (He.ga K)) F gx sc__law_hand rfl (fun _ _ _ _ _ _ us hl => match us, hl with | [_], _ => rfl) (fun cdv A outer s H E hr =>
      (dss_cons (ds_setLc rfl sc__law_hand.nd rfl rfl (sw_true rfl rfl rfl (by decide +kernel)) (di_seq (d_slice (de_var 0) do_none (do_some de_int))) (blkOk_by (own := [("cell", 2)]) (by rfl)) (fun _ _ _ _ _ => (dg_name sc__law_hand.nd)) (fun _ _ _ _ _ => dts_nil) (fun _ _ _ _ _ => (d_mod (d_callTy call_int1 (lc_1 lu_int) T.z_int (da_cons (d_callB call_abs (lc_1 lu_abs) T.z_abs (da_cons (d_callTy call_int1 (lc_1 lu_int) T.z_int (da_cons (de_var 2) da_nil)) da_nil)) da_nil)) (d_pow de_int de_int))))
      (dss_one (ds_ret (de_lstC (da_cons (de_var 1) (da_cons de_int (da_cons de_int (da_cons (d_add de_int (d_mul de_int (d_callB call_len (lc_1 lu_len) T.z_len (da_cons (de_var 1) da_nil)))) (da_cons de_int da_nil)))))))))) (vc__law_hand (He.ga K))
abbrev s__law_draw : Stmt := top 25
theorem sc__law_draw : FnScope N__law_draw ["hand", "many"] (defScope s__law_draw) := ⟨rfl, rfl, rfl, by decide +kernel, rfl, by decide +kernel, by decide +kernel⟩
theorem ln__law_draw {xc : Str → Addr} : ∀ ds M E Q, ph__law_draw xc ds M E Q → ds.length = 2 := ln2
theorem kn__law_draw (T : Txt K mg) (F : ∃ fd, FunD K "_law_draw" "_law_draw" (defArgs s__law_draw) (defBody s__law_draw) (defScope s__law_draw) [] [] (He.ga K "_law_draw") fd) (gx : mg "_law_draw" = some (.ref (He.ga K "_law_draw")))  : Kn P w K mg base 1 "_law_draw" 2 (ph__law_draw (He.ga K)) :=
  kn_of (ws := w__law_draw (He.ga K)) F gx sc__law_draw rfl (fun _ _ _ _ _ _ us hl => match us, hl with | [_, _], _ => rfl) (fun cdv A outer s H E hr =>
      (dss_cons (ds_if (dw_pt (dw_and (dt_cmp (op_eqD hr.units) lr_eq (d_ix (de_var 0) de_int) de_int (nomark _)) (dw_and1 (dt_cmp op_lt lr_cmp (d_ix (de_var 0) de_int) (d_callB call_len (lc_1 lu_len) T.z_len (da_cons (d_ix (de_var 0) de_int) da_nil)) (nomark _))))) (dss_cons (ds_asg (d_ix (d_ix (de_var 0) de_int) (d_ix (de_var 0) de_int)) (dg_name sc__law_draw.nd))
      (dss_cons (ds_asg (d_add (d_ix (de_var 0) de_int) de_int) (dg_sub (de_var 0) de_int set_list ls_setL))
      (dss_cons (ds_asg (d_mod (d_callTy call_int1 (lc_1 lu_int) T.z_int (da_cons (d_add (d_add (d_mul (d_ix (de_var 0) de_int) de_int) (d_mul (de_var 2) de_int)) de_int) da_nil)) de_int) (dg_sub (de_var 0) de_int set_list ls_setL))
      (dss_one (ds_if (dt_cmp op_ge lr_cmp (de_var 2) (d_pow de_int de_int) (nomark _)) (dss_one (ds_asg (de_var 2) (dg_sub (de_var 0) de_int set_list ls_setL))) dss_nil))))) dss_nil)
      (dss_cons (ds_if (dt_cmp op_gt lr_cmp (d_ix (de_var 0) de_int) de_int (nomark _)) (dss_cons (ds_asg (d_mod (d_callTy call_int1 (lc_1 lu_int) T.z_int (da_cons (d_ix (de_var 0) de_int) da_nil)) (de_var 1)) (dg_name sc__law_draw.nd))
      (dss_cons (ds_asg (d_fdiv (d_ix (de_var 0) de_int) (de_var 1)) (dg_sub (de_var 0) de_int set_list ls_setL))
      (dss_one (ds_ret (de_var 3))))) dss_nil)
      (dss_cons (ds_asg (d_add (d_ix (de_var 0) de_int) de_int) (dg_sub (de_var 0) de_int set_list ls_setL))
      (dss_cons (ds_asg (d_mod (d_callTy call_int1 (lc_1 lu_int) T.z_int (da_cons (d_mul (d_callTy call_int1 (lc_1 lu_int) T.z_int (da_cons (d_add (d_ix (de_var 0) de_int) (d_mul de_int (d_ix (de_var 0) de_int))) da_nil)) de_int) da_nil)) de_int) (dg_name sc__law_draw.nd))
      (dss_cons (ds_asg (d_mod (d_callTy call_int1 (lc_1 lu_int) T.z_int (da_cons (d_mul (de_var 4) (d_add (d_fdiv (de_var 4) de_int) de_int)) da_nil)) de_int) (dg_name sc__law_draw.nd))
      (dss_cons (ds_asg (d_mod (d_callTy call_int1 (lc_1 lu_int) T.z_int (da_cons (d_mul (de_var 4) (d_add (d_fdiv (de_var 4) de_int) de_int)) da_nil)) de_int) (dg_name sc__law_draw.nd))
      (dss_one (ds_ret (d_mod (d_callTy call_int1 (lc_1 lu_int) T.z_int (da_cons (d_fdiv (de_var 4) de_int) da_nil)) (de_var 1))))))))))) (vc__law_draw (He.ga K))
abbrev s__law_any : Stmt := top 26
theorem sc__law_any : FnScope N__law_any ["hand", "some"] (defScope s__law_any) := ⟨rfl, rfl, rfl, by decide +kernel, rfl, by decide +kernel, by decide +kernel⟩
theorem ln__law_any {xc : Str → Addr} : ∀ ds M E Q, ph__law_any xc ds M E Q → ds.length = 2 := ln2
theorem kn__law_any (T : Txt K mg) (F : ∃ fd, FunD K "_law_any" "_law_any" (defArgs s__law_any) (defBody s__law_any) (defScope s__law_any) [] [] (He.ga K "_law_any") fd) (gx : mg "_law_any" = some (.ref (He.ga K "_law_any"))) (G__law_draw : Kn P w K mg base 1 "_law_draw" 2 (ph__law_draw (He.ga K))) : Kn P w K mg base 2 "_law_any" 2 (ph__law_any (He.ga K)) :=
  kn_of (ws := w__law_any (He.ga K)) F gx sc__law_any rfl (fun _ _ _ _ _ _ us hl => match us, hl with | [_, _], _ => rfl) (fun cdv A outer s H E hr =>
      (dss_one (ds_ret (d_ix (de_var 1) (d_def G__law_draw ln__law_draw (hr.mono (by decide)) lets_in (da_cons (de_var 0) (da_cons (d_callB call_len (lc_1 lu_len) T.z_len (da_cons (de_var 1) da_nil)) da_nil))))))) (vc__law_any (He.ga K))
abbrev s__law_stock : Stmt := top 27
theorem sc__law_stock : FnScope N__law_stock ["hand"] (defScope s__law_stock) := ⟨rfl, rfl, rfl, by decide +kernel, rfl, by decide +kernel, by decide +kernel⟩
theorem ln__law_stock {xc : Str → Addr} : ∀ ds M E Q, ph__law_stock xc ds M E Q → ds.length = 1 := ln1
theorem kn__law_stock (T : Txt K mg) (F : ∃ fd, FunD K "_law_stock" "_law_stock" (defArgs s__law_stock) (defBody s__law_stock) (defScope s__law_stock) [] [] (He.ga K "_law_stock") fd) (gx : mg "_law_stock" = some (.ref (He.ga K "_law_stock"))) (G__law_draw : Kn P w K mg base 1 "_law_draw" 2 (ph__law_draw (He.ga K))) (G__law_any : Kn P w K mg base 2 "_law_any" 2 (ph__law_any (He.ga K))) : Kn P w K mg base 3 "_law_stock" 1 (ph__law_stock (He.ga K)) :=
  kn_of (ws := w__law_stock (He.ga K)) F gx sc__law_stock rfl (fun _ _ _ _ _ _ us hl => match us, hl with | [_], _ => rfl) (fun cdv A outer s H E hr =>
      (dss_cons (ds_par3 (i := 1) (j := 2) (l := 3) rfl sc__law_stock.nd (da_cons (de_lstC da_nil) (da_cons de_int (da_cons (d_def G__law_any ln__law_any (hr.mono (by decide)) lets_in (da_cons (de_var 0) (da_cons (de_lst (da_cons de_int (da_cons de_int (da_cons de_int da_nil)))) da_nil))) da_nil))))
      (dss_cons (ds_for own_in rfl (di_rng1 T.z_range (da_cons (d_def G__law_draw ln__law_draw (hr.mono (by decide)) lets_in (da_cons (de_var 0) (da_cons de_int da_nil))) da_nil)) (dg_name sc__law_stock.nd) (dss_one (ds_if (dw_pt (dw_and (dt_cmp op_gt lr_cmp (de_var 2) de_int (nomark _)) (dw_and1 (dt_cmp (op_eqD hr.units) lr_eq (d_def G__law_draw ln__law_draw (hr.mono (by decide)) lets_in (da_cons (de_var 0) (da_cons de_int da_nil))) de_int (nomark _))))) (dss_cons (ds_asg (d_callB (call_min2 rfl) (lc_2 lr_min2) T.z_min (da_cons de_int (da_cons (d_def G__law_any ln__law_any (hr.mono (by decide)) lets_in (da_cons (de_var 0) (da_cons (de_lst (da_cons (de_var 2) (da_cons (d_add de_int (d_def G__law_draw ln__law_draw (hr.mono (by decide)) lets_in (da_cons (de_var 0) (da_cons (de_var 2) da_nil)))) (da_cons (d_add de_int (d_def G__law_draw ln__law_draw (hr.mono (by decide)) lets_in (da_cons (de_var 0) (da_cons (de_var 2) da_nil)))) da_nil)))) da_nil))) da_nil))) (dg_name sc__law_stock.nd))
      (dss_cons (ds_expr (d_append (de_var 1) (da_cons (de_tup (da_cons de_str (da_cons (de_var 5) da_nil))) da_nil)))
      (dss_one (ds_asg (d_sub (de_var 2) (de_var 5)) (dg_name sc__law_stock.nd))))) (dss_cons (ds_asg (d_add de_int (d_def G__law_draw ln__law_draw (hr.mono (by decide)) lets_in (da_cons (de_var 0) (da_cons (de_var 3) da_nil)))) (dg_name sc__law_stock.nd))
      (dss_cons (ds_expr (d_append (de_var 1) (da_cons (de_tup (da_cons de_str (da_cons (de_var 5) (da_cons (d_def G__law_any ln__law_any (hr.mono (by decide)) lets_in (da_cons (de_var 0) (da_cons (de_lst (da_cons de_int (da_cons de_int (da_cons de_int (da_cons (d_def G__law_draw ln__law_draw (hr.mono (by decide)) lets_in (da_cons (de_var 0) (da_cons de_int da_nil))) da_nil))))) da_nil))) da_nil)))) da_nil)))
      (dss_one (ds_asg (d_add (de_var 2) (de_var 5)) (dg_name sc__law_stock.nd))))))))
      (dss_one (ds_ret (d_callTy call_tuple_of (lc_1 lu_tuple) T.z_tuple (da_cons (de_var 1) da_nil))))))) (vc__law_stock (He.ga K))
abbrev s__law_pieces : Stmt := top 28
theorem sc__law_pieces : FnScope N__law_pieces ["stock"] (defScope s__law_pieces) := ⟨rfl, rfl, rfl, by decide +kernel, rfl, by decide +kernel, by decide +kernel⟩
theorem ln__law_pieces {xc : Str → Addr} : ∀ ds M E Q, ph__law_pieces xc ds M E Q → ds.length = 1 := ln1
theorem kn__law_pieces (T : Txt K mg) (F : ∃ fd, FunD K "_law_pieces" "_law_pieces" (defArgs s__law_pieces) (defBody s__law_pieces) (defScope s__law_pieces) [] [] (He.ga K "_law_pieces") fd) (gx : mg "_law_pieces" = some (.ref (He.ga K "_law_pieces")))  : Kn P w K mg base 1 "_law_pieces" 1 (ph__law_pieces (He.ga K)) :=
  kn_of (ws := w__law_pieces (He.ga K)) F gx sc__law_pieces rfl (fun _ _ _ _ _ _ us hl => match us, hl with | [_], _ => rfl) (fun cdv A outer s H E hr =>
      (dss_cons (ds_par3 (i := 1) (j := 2) (l := 3) rfl sc__law_pieces.nd (da_cons (de_lstC da_nil) (da_cons (de_lstC da_nil) (da_cons de_int da_nil))))
      (dss_cons (ds_for own_in rfl (di_seq (de_var 0)) (dg_name sc__law_pieces.nd) (dss_cons (ds_if (dt_cmp (op_eqD hr.units) lr_eq (d_ix (de_var 4) de_int) de_str (nomark _)) (dss_one (ds_expr (d_append (de_var 1) (da_cons (de_lstC (da_cons (d_ix (de_var 4) de_int) (da_cons (d_ix (de_var 4) de_int) da_nil))) da_nil)))) (dss_cons (ds_asg (d_ix (de_var 4) de_int) (dg_name sc__law_pieces.nd))
      (dss_cons (ds_for own_in rfl (di_seq (de_var 1)) (dg_name sc__law_pieces.nd) (dss_cons (ds_asg (d_callB (call_min2 rfl) (lc_2 lr_min2) T.z_min (da_cons (de_var 5) (da_cons (d_ix (de_var 6) de_int) da_nil))) (dg_name sc__law_pieces.nd))
      (dss_cons (ds_expr (d_append (de_var 2) (da_cons (de_tup (da_cons (de_var 7) (da_cons (d_ix (de_var 6) de_int) da_nil))) da_nil)))
      (dss_one (ds_asg (de_tup (da_cons (d_sub (d_ix (de_var 6) de_int) (de_var 7)) (da_cons (d_sub (de_var 5) (de_var 7)) da_nil))) (dg_tup (n := 2) rfl (dgs_cons (dg_sub (de_var 6) de_int set_list ls_setL) (dgs_cons (dg_name sc__law_pieces.nd) dgs_nil)) gl_sn))))))
      (dss_one (ds_setLcC rfl sc__law_pieces.nd rfl rfl (sw_true rfl rfl rfl (by decide +kernel)) (di_seq (de_var 1)) (blkOk_by (own := [("layer", 6)]) (by rfl)) (fun _ _ _ _ _ => (dg_name sc__law_pieces.nd)) (fun _ _ _ _ _ => (dts_one (dt_cmp op_gt lr_cmp (d_ix (de_var 6) de_int) de_int (nomark _)))) (fun _ _ _ _ _ => (de_var 6)))))))
      (dss_one (ds_asg (d_callB (call_max2 rfl) (lc_2 lr_max2) T.z_max (da_cons (de_var 3) (da_cons (d_callB (cr_sumA rfl) (lc_1 lu_sum) T.z_sum (da_cons (de_lc rfl sc__law_pieces.nd (di_seq (de_var 1)) (blkOk_by (own := [("layer", 6)]) (by rfl)) (fun _ _ _ _ _ => (dg_name sc__law_pieces.nd)) (fun _ _ _ _ _ => dts_nil) (fun _ _ _ _ _ => (d_ix (de_var 6) de_int))) da_nil)) da_nil))) (dg_name sc__law_pieces.nd)))))
      (dss_one (ds_ret (de_tup (da_cons (de_lc rfl sc__law_pieces.nd (di_seq (de_var 1)) (blkOk_by (own := [("layer", 6)]) (by rfl)) (fun _ _ _ _ _ => (dg_name sc__law_pieces.nd)) (fun _ _ _ _ _ => dts_nil) (fun _ _ _ _ _ => (de_tup (da_cons (d_ix (de_var 6) de_int) (da_cons (d_ix (de_var 6) de_int) da_nil))))) (da_cons (de_var 2) (da_cons (de_var 3) da_nil))))))))) (vc__law_pieces (He.ga K))
abbrev s__law_cost : Stmt := top 29
theorem sc__law_cost : FnScope N__law_cost ["some"] (defScope s__law_cost) := ⟨rfl, rfl, rfl, by decide +kernel, rfl, by decide +kernel, by decide +kernel⟩
theorem ln__law_cost {xc : Str → Addr} : ∀ ds M E Q, ph__law_cost xc ds M E Q → ds.length = 1 := ln1
theorem kn__law_cost (T : Txt K mg) (F : ∃ fd, FunD K "_law_cost" "_law_cost" (defArgs s__law_cost) (defBody s__law_cost) (defScope s__law_cost) [] [] (He.ga K "_law_cost") fd) (gx : mg "_law_cost" = some (.ref (He.ga K "_law_cost")))  : Kn P w K mg base 1 "_law_cost" 1 (ph__law_cost (He.ga K)) :=
  kn_of (ws := w__law_cost (He.ga K)) F gx sc__law_cost rfl (fun _ _ _ _ _ _ us hl => match us, hl with | [_], _ => rfl) (fun cdv A outer s H E hr =>
      (dss_one (ds_ret (d_callB (cr_sumA rfl) (lc_1 lu_sum) T.z_sum (da_cons (de_lc rfl sc__law_cost.nd (di_seq (de_var 0)) (blkOk_by (own := [("many", 1), ("price", 2)]) (by rfl)) (fun _ _ _ _ _ => (dg_tup (n := 2) rfl (dgs_cons (dg_name sc__law_cost.nd) (dgs_cons (dg_name sc__law_cost.nd) dgs_nil)) gl_2)) (fun _ _ _ _ _ => dts_nil) (fun _ _ _ _ _ => (d_mul (de_var 1) (de_var 2)))) da_nil))))) (vc__law_cost (He.ga K))
abbrev s__law_stock_right : Stmt := top 30
theorem sc__law_stock_right : FnScope N__law_stock_right ["hand", "stock"] (defScope s__law_stock_right) := ⟨rfl, rfl, rfl, by decide +kernel, rfl, by decide +kernel, by decide +kernel⟩
theorem ln__law_stock_right {xc : Str → Addr} : ∀ ds M E Q, ph__law_stock_right xc ds M E Q → ds.length = 2 := ln2
theorem kn__law_stock_right (T : Txt K mg) (F : ∃ fd, FunD K "_law_stock_right" "_law_stock_right" (defArgs s__law_stock_right) (defBody s__law_stock_right) (defScope s__law_stock_right) [] [] (He.ga K "_law_stock_right") fd) (gx : mg "_law_stock_right" = some (.ref (He.ga K "_law_stock_right"))) (G_most_there : Kn P w K mg base 5 "most_there" 1 (ph_most_there (He.ga K))) (G_cost_out : Kn P w K mg base 5 "cost_out" 1 (ph_cost_out (He.ga K))) (G_layers : Kn P w K mg base 5 "layers" 1 (ph_layers (He.ga K))) (G_there : Kn P w K mg base 5 "there" 1 (ph_there (He.ga K))) (G__law_draw : Kn P w K mg base 1 "_law_draw" 2 (ph__law_draw (He.ga K))) (G_worth_there : Kn P w K mg base 5 "worth_there" 1 (ph_worth_there (He.ga K))) (G__law_cost : Kn P w K mg base 1 "_law_cost" 1 (ph__law_cost (He.ga K))) (G__law_pieces : Kn P w K mg base 1 "_law_pieces" 1 (ph__law_pieces (He.ga K))) : Kn P w K mg base 6 "_law_stock_right" 2 (ph__law_stock_right (He.ga K)) :=
  kn_of (ws := w__law_stock_right (He.ga K)) F gx sc__law_stock_right rfl (fun _ _ _ _ _ _ us hl => match us, hl with | [_, _], _ => rfl) (fun cdv A outer s H E hr =>
      (dss_cons (ds_asg (d_def G__law_pieces ln__law_pieces (hr.mono (by decide)) lets_in (da_cons (de_var 1) da_nil)) (dg_tup (n := 3) rfl (dgs_cons (dg_name sc__law_stock_right.nd) (dgs_cons (dg_name sc__law_stock_right.nd) (dgs_cons (dg_name sc__law_stock_right.nd) dgs_nil))) gl_3))
      (dss_cons (ds_asg (d_callB (cr_sumA rfl) (lc_1 lu_sum) T.z_sum (da_cons (de_lc rfl sc__law_stock_right.nd (di_seq (de_var 2)) (blkOk_by (own := [("part", 9)]) (by rfl)) (fun _ _ _ _ _ => (dg_name sc__law_stock_right.nd)) (fun _ _ _ _ _ => dts_nil) (fun _ _ _ _ _ => (d_ix (de_var 9) de_int))) da_nil)) (dg_name sc__law_stock_right.nd))
      (dss_cons (ds_if (dw_pt (dw_or (dt_cmp (op_neD hr.units) lr_ne (d_def G_there ln_there (hr.mono (by decide)) lets_in (da_cons (de_var 1) da_nil)) (de_var 5) (nomark _)) (dw_or (dt_cmp (op_neD hr.units) lr_ne (d_def G_layers ln_layers (hr.mono (by decide)) lets_in (da_cons (de_var 1) da_nil)) (d_callTy call_tuple_of (lc_1 lu_tuple) T.z_tuple (da_cons (de_var 2) da_nil)) (nomark _)) (dw_or1 (dt_cmp (op_neD hr.units) lr_ne (d_def G_most_there ln_most_there (hr.mono (by decide)) lets_in (da_cons (de_var 1) da_nil)) (de_var 4) (nomark _)))))) (dss_one (ds_ret de_bl)) dss_nil)
      (dss_cons (ds_if (dw_pt (dw_or (dt_cmp (op_neD hr.units) lr_ne (d_def G_worth_there ln_worth_there (hr.mono (by decide)) lets_in (da_cons (de_var 1) da_nil)) (d_def G__law_cost ln__law_cost (hr.mono (by decide)) lets_in (da_cons (de_var 2) da_nil)) (nomark _)) (dw_or1 (dt_cmp (op_neD hr.units) lr_ne (d_def G_cost_out ln_cost_out (hr.mono (by decide)) lets_in (da_cons (de_var 1) da_nil)) (d_def G__law_cost ln__law_cost (hr.mono (by decide)) lets_in (da_cons (de_var 3) da_nil)) (nomark _))))) (dss_one (ds_ret de_bl)) dss_nil)
      (dss_cons (ds_asg (d_def G__law_cost ln__law_cost (hr.mono (by decide)) lets_in (da_cons (de_lc rfl sc__law_stock_right.nd (di_seq (de_var 1)) (blkOk_by (own := [("deed", 10)]) (by rfl)) (fun _ _ _ _ _ => (dg_name sc__law_stock_right.nd)) (fun _ _ _ _ _ => (dts_one (dt_cmp (op_eqD hr.units) lr_eq (d_ix (de_var 10) de_int) de_str (nomark _)))) (fun _ _ _ _ _ => (de_tup (da_cons (d_ix (de_var 10) de_int) (da_cons (d_ix (de_var 10) de_int) da_nil))))) da_nil)) (dg_name sc__law_stock_right.nd))
      (dss_cons (ds_if (dt_cmp (op_neD hr.units) lr_ne (d_add (d_def G_worth_there ln_worth_there (hr.mono (by decide)) lets_in (da_cons (de_var 1) da_nil)) (d_def G_cost_out ln_cost_out (hr.mono (by decide)) lets_in (da_cons (de_var 1) da_nil))) (de_var 6) (nomark _)) (dss_one (ds_ret de_bl)) dss_nil)
      (dss_cons (ds_asg (d_add (de_var 1) (de_tup (da_cons (de_tup (da_cons de_str (da_cons (d_add de_int (d_def G__law_draw ln__law_draw (hr.mono (by decide)) lets_in (da_cons (de_var 0) (da_cons de_int da_nil)))) (da_cons (d_def G__law_draw ln__law_draw (hr.mono (by decide)) lets_in (da_cons (de_var 0) (da_cons de_int da_nil))) da_nil)))) da_nil))) (dg_name sc__law_stock_right.nd))
      (dss_cons (ds_if (dw_pt (dw_or (dt_cmp (op_neD hr.units) lr_ne (d_def G_layers ln_layers (hr.mono (by decide)) lets_in (da_cons (de_var 7) da_nil)) (d_add (d_def G_layers ln_layers (hr.mono (by decide)) lets_in (da_cons (de_var 1) da_nil)) (de_tup (da_cons (de_tup (da_cons (d_ix (d_ix (de_var 7) (d_neg de_int)) de_int) (da_cons (d_ix (d_ix (de_var 7) (d_neg de_int)) de_int) da_nil))) da_nil))) (nomark _)) (dw_or1 (dt_cmp (op_neD hr.units) lr_ne (d_def G_cost_out ln_cost_out (hr.mono (by decide)) lets_in (da_cons (de_var 7) da_nil)) (d_def G_cost_out ln_cost_out (hr.mono (by decide)) lets_in (da_cons (de_var 1) da_nil)) (nomark _))))) (dss_one (ds_ret de_bl)) dss_nil)
      (dss_cons (ds_if (dt_not (dt_chain op_lt lr_cmp op_lt lr_cmp de_int (de_var 5) de_int)) (dss_one (ds_ret de_bl)) dss_nil)
      (dss_cons (ds_asg (d_add (de_var 1) (de_tup (da_cons (de_tup (da_cons de_str (da_cons (de_var 5) da_nil))) da_nil))) (dg_name sc__law_stock_right.nd))
      (dss_one (ds_ret (de_and (de_cmp (op_eqD hr.units) lr_eq (d_def G_there ln_there (hr.mono (by decide)) lets_in (da_cons (de_var 8) da_nil)) de_int (nomark _)) (de_and (de_cmp (op_eqD hr.units) lr_eq (d_def G_layers ln_layers (hr.mono (by decide)) lets_in (da_cons (de_var 8) da_nil)) (de_tup da_nil) (nomark _)) (de_and (de_cmp (op_eqD hr.units) lr_eq (d_def G_cost_out ln_cost_out (hr.mono (by decide)) lets_in (da_cons (de_var 8) da_nil)) (de_var 6) (nomark _)) (de_one (de_cmp (op_eqD hr.units) lr_eq (d_def G_most_there ln_most_there (hr.mono (by decide)) lets_in (da_cons (de_var 8) da_nil)) (de_var 4) (nomark _))))))))))))))))))) (vc__law_stock_right (He.ga K))
abbrev s_law : Stmt := top 31
theorem sc_law : FnScope N_law ["script"] (defScope s_law) := ⟨rfl, rfl, rfl, by decide +kernel, rfl, by decide +kernel, by decide +kernel⟩
theorem ln_law {xc : Str → Addr} : ∀ ds M E Q, ph_law xc ds M E Q → ds.length = 1 := ln1
theorem fn_law {fd : FuncData} (T : Txt K mg) (F : FunD K "law" "law" (defArgs s_law) (defBody s_law) (defScope s_law) [] [] (He.ga K "law") fd) (G__law_stock : Kn P w K mg base 3 "_law_stock" 1 (ph__law_stock (He.ga K))) (G__law_stock_right : Kn P w K mg base 6 "_law_stock_right" 2 (ph__law_stock_right (He.ga K))) (G_most_there : Kn P w K mg base 5 "most_there" 1 (ph_most_there (He.ga K))) (G_cost_out : Kn P w K mg base 5 "cost_out" 1 (ph_cost_out (He.ga K))) (G_layers : Kn P w K mg base 5 "layers" 1 (ph_layers (He.ga K))) (G_there : Kn P w K mg base 5 "there" 1 (ph_there (He.ga K))) (G_worth_there : Kn P w K mg base 5 "worth_there" 1 (ph_worth_there (He.ga K))) (G__law_hand : Kn P w K mg base 1 "_law_hand" 1 (ph__law_hand (He.ga K))) : FnOk P w K mg base (L2.CX P w) 7 (He.ga K "law") fd ["script"] (SpF K 1 (ph_law (He.ga K))) :=
  fn_of (ws := w_law (He.ga K)) F sc_law rfl (fun cdv A outer s H E hr =>
      (dss_cons (ds_asg (d_def G__law_hand ln__law_hand (hr.mono (by decide)) lets_in (da_cons (de_var 0) da_nil)) (dg_name sc_law.nd))
      (dss_cons (ds_asg (de_tup (da_cons (de_tup (da_cons de_str (da_cons de_int (da_cons de_int da_nil)))) (da_cons (de_tup (da_cons de_str (da_cons de_int (da_cons de_int da_nil)))) (da_cons (de_tup (da_cons de_str (da_cons de_int da_nil))) (da_cons (de_tup (da_cons de_str (da_cons de_int (da_cons de_int da_nil)))) da_nil))))) (dg_name sc_law.nd))
      (dss_cons (ds_if (dw_pt (dw_or (dt_cmp (op_neD hr.units) lr_ne (d_def G_there ln_there (hr.mono (by decide)) lets_in (da_cons (de_var 2) da_nil)) de_int (nomark _)) (dw_or (dt_cmp (op_neD hr.units) lr_ne (d_def G_layers ln_layers (hr.mono (by decide)) lets_in (da_cons (de_var 2) da_nil)) (de_tup (da_cons (de_tup (da_cons de_int (da_cons de_int da_nil))) (da_cons (de_tup (da_cons de_int (da_cons de_int da_nil))) da_nil))) (nomark _)) (dw_or (dt_cmp (op_neD hr.units) lr_ne (d_def G_cost_out ln_cost_out (hr.mono (by decide)) lets_in (da_cons (de_var 2) da_nil)) de_int (nomark _)) (dw_or1 (dt_cmp (op_neD hr.units) lr_ne (d_def G_worth_there ln_worth_there (hr.mono (by decide)) lets_in (da_cons (de_var 2) da_nil)) de_int (nomark _))))))) (dss_one (ds_ret de_bl)) dss_nil)
      (dss_cons (ds_if (dw_pt (dw_or (dt_cmp (op_neD hr.units) lr_ne (d_def G_most_there ln_most_there (hr.mono (by decide)) lets_in (da_cons (de_var 2) da_nil)) de_int (nomark _)) (dw_or (dt_cmp (op_neD hr.units) lr_ne (d_def G_there ln_there (hr.mono (by decide)) lets_in (da_cons (de_tup da_nil) da_nil)) de_int (nomark _)) (dw_or (dt_cmp (op_neD hr.units) lr_ne (d_def G_layers ln_layers (hr.mono (by decide)) lets_in (da_cons (de_tup da_nil) da_nil)) (de_tup da_nil) (nomark _)) (dw_or (dt_cmp (op_neD hr.units) lr_ne (d_def G_cost_out ln_cost_out (hr.mono (by decide)) lets_in (da_cons (de_tup da_nil) da_nil)) de_int (nomark _)) (dw_or1 (dt_cmp (op_neD hr.units) lr_ne (d_def G_most_there ln_most_there (hr.mono (by decide)) lets_in (da_cons (de_tup da_nil) da_nil)) de_int (nomark _)))))))) (dss_one (ds_ret de_bl)) dss_nil)
      (dss_cons (ds_for own_in rfl (di_rng1 T.z_range (da_cons de_int da_nil)) (dg_name sc_law.nd) (dss_one (ds_if (dt_not (dt_val (d_def G__law_stock_right ln__law_stock_right (hr.mono (by decide)) lets_in (da_cons (de_var 1) (da_cons (d_def G__law_stock ln__law_stock (hr.mono (by decide)) lets_in (da_cons (de_var 1) da_nil)) da_nil))))) (dss_one (ds_ret de_bl)) dss_nil)))
      (dss_one (ds_ret de_bl)))))))) (vc_law (He.ga K))
end
end K66

set_option Elab.async false
set_option linter.all false
set_option maxRecDepth 100000
set_option maxHeartbeats 0
namespace K66
open PySem PySem.Spec PyProof.Rows L2 DL

abbrev R : PySem.W.OpenRow := PySem.W.OpenLaw.row PySem.Challenge.rw_postshire_k66_whole_stamps_in_stock
def mkD (x : Str) (i : Nat) : He.DefD := ⟨(x, none), x, x, defArgs (top i), defBody (top i), defScope (top i), [], []⟩
def fn : List He.DefD := [mkD "is_integer" 1, mkD "is_within" 2, mkD "is_deed" 14, mkD "check_stock" 15, mkD "taken" 16, mkD "gone_through" 17, mkD "there" 18, mkD "cost_out" 19, mkD "worth_there" 20, mkD "layers" 21, mkD "most_there" 22, mkD "_law_hand" 24, mkD "_law_draw" 25, mkD "_law_any" 26, mkD "_law_stock" 27, mkD "_law_pieces" 28, mkD "_law_cost" 29, mkD "_law_stock_right" 30, mkD "law" 31]
def fa : List He.Fa := [.glo "is_integer", .glo "is_within", .glo "is_deed", .glo "check_stock", .glo "taken", .glo "gone_through", .glo "there", .glo "cost_out", .glo "worth_there", .glo "layers", .glo "most_there", .glo "_law_hand", .glo "_law_draw", .glo "_law_any", .glo "_law_stock", .glo "_law_pieces", .glo "_law_cost", .glo "_law_stock_right", .glo "law", .free "abs", .free "all", .free "bool", .free "enumerate", .free "int", .free "isinstance", .free "len", .free "list", .free "max", .free "min", .free "range", .free "str", .free "sum", .free "tuple", .str "IN" "in", .int "MOST_DEEDS" 40, .int "MOST_MANY" 999, .int "MOST_PRICE" 999, .str "OUT" "out"]
abbrev hk : PySem.W.Hook := He.hookD 6 fa fn
def ob (s : PySem.W.SharedT) : He.AlD := He.obsDG 6 fa fn (HandSHeadRun.getT s)
theorem ob_eq (s : PySem.W.SharedT) : ob s = hk.obs s.abs := He.obsDG_eq (HandSHeadRun.getT_eq s)
def names : List PySem.Str := ["is_integer", "is_within", "PostFault", "BadStock", "Short", "MOST_DEEDS", "MOST_MANY", "MOST_PRICE", "IN", "OUT", "is_deed", "check_stock", "taken", "gone_through", "there", "cost_out", "worth_there", "layers", "most_there", "_law_hand", "_law_draw", "_law_any", "_law_stock", "_law_pieces", "_law_cost", "_law_stock_right"]
theorem run (w : World) : HandSHeadRun.RunEq R (PySem.W.view R.prog [31]) hk ob 1500 names w := by
  intro os
  kernel_rfl
theorem facts {P : Program} {w : World} {K : PySem.W.Frag} {h : Heap} {mg : Str → Option Value} {f : Addr} (X : K.In h) (G : h.Ns mainGlobals mg) (hfa : mg ("law" : Str) = some (.ref f)) (c : He.SaysD fa fn K) :
    ∃ fd : FuncData, (∀ (s : Shared) (v : Value), BindsTo s fd ⟨[v], []⟩ [("script", v)]) ∧ ∀ base : Heap, K.In base → base.Ns mainGlobals mg → FnOk P w K mg base (L2.CX P w) 7 f fd ["script"] (SpF K 1 (ph_law (He.ga K))) := by
  have T : Txt K mg := {
    z_abs := He.free_ok X G (c.fact 19 (f := .free "abs") rfl)
    z_all := He.free_ok X G (c.fact 20 (f := .free "all") rfl)
    z_bool := He.free_ok X G (c.fact 21 (f := .free "bool") rfl)
    z_enumerate := He.free_ok X G (c.fact 22 (f := .free "enumerate") rfl)
    z_int := He.free_ok X G (c.fact 23 (f := .free "int") rfl)
    z_isinstance := He.free_ok X G (c.fact 24 (f := .free "isinstance") rfl)
    z_len := He.free_ok X G (c.fact 25 (f := .free "len") rfl)
    z_list := He.free_ok X G (c.fact 26 (f := .free "list") rfl)
    z_max := He.free_ok X G (c.fact 27 (f := .free "max") rfl)
    z_min := He.free_ok X G (c.fact 28 (f := .free "min") rfl)
    z_range := He.free_ok X G (c.fact 29 (f := .free "range") rfl)
    z_str := He.free_ok X G (c.fact 30 (f := .free "str") rfl)
    z_sum := He.free_ok X G (c.fact 31 (f := .free "sum") rfl)
    z_tuple := He.free_ok X G (c.fact 32 (f := .free "tuple") rfl)
    c_IN := He.str_ok X G (c.fact 33 (f := .str "IN" "in") rfl)
    c_MOST_DEEDS := He.int_ok X G (c.fact 34 (f := .int "MOST_DEEDS" 40) rfl)
    c_MOST_MANY := He.int_ok X G (c.fact 35 (f := .int "MOST_MANY" 999) rfl)
    c_MOST_PRICE := He.int_ok X G (c.fact 36 (f := .int "MOST_PRICE" 999) rfl)
    c_OUT := He.str_ok X G (c.fact 37 (f := .str "OUT" "out") rfl) }
  have F_is_integer := c.def_ 0 (d := mkD "is_integer" 1) rfl
  have g_is_integer := He.glo_ok X G (c.fact 0 (f := .glo "is_integer") rfl)
  have F_is_within := c.def_ 1 (d := mkD "is_within" 2) rfl
  have g_is_within := He.glo_ok X G (c.fact 1 (f := .glo "is_within") rfl)
  have F_is_deed := c.def_ 2 (d := mkD "is_deed" 14) rfl
  have g_is_deed := He.glo_ok X G (c.fact 2 (f := .glo "is_deed") rfl)
  have F_check_stock := c.def_ 3 (d := mkD "check_stock" 15) rfl
  have g_check_stock := He.glo_ok X G (c.fact 3 (f := .glo "check_stock") rfl)
  have F_taken := c.def_ 4 (d := mkD "taken" 16) rfl
  have g_taken := He.glo_ok X G (c.fact 4 (f := .glo "taken") rfl)
  have F_gone_through := c.def_ 5 (d := mkD "gone_through" 17) rfl
  have g_gone_through := He.glo_ok X G (c.fact 5 (f := .glo "gone_through") rfl)
  have F_there := c.def_ 6 (d := mkD "there" 18) rfl
  have g_there := He.glo_ok X G (c.fact 6 (f := .glo "there") rfl)
  have F_cost_out := c.def_ 7 (d := mkD "cost_out" 19) rfl
  have g_cost_out := He.glo_ok X G (c.fact 7 (f := .glo "cost_out") rfl)
  have F_worth_there := c.def_ 8 (d := mkD "worth_there" 20) rfl
  have g_worth_there := He.glo_ok X G (c.fact 8 (f := .glo "worth_there") rfl)
  have F_layers := c.def_ 9 (d := mkD "layers" 21) rfl
  have g_layers := He.glo_ok X G (c.fact 9 (f := .glo "layers") rfl)
  have F_most_there := c.def_ 10 (d := mkD "most_there" 22) rfl
  have g_most_there := He.glo_ok X G (c.fact 10 (f := .glo "most_there") rfl)
  have F__law_hand := c.def_ 11 (d := mkD "_law_hand" 24) rfl
  have g__law_hand := He.glo_ok X G (c.fact 11 (f := .glo "_law_hand") rfl)
  have F__law_draw := c.def_ 12 (d := mkD "_law_draw" 25) rfl
  have g__law_draw := He.glo_ok X G (c.fact 12 (f := .glo "_law_draw") rfl)
  have F__law_any := c.def_ 13 (d := mkD "_law_any" 26) rfl
  have g__law_any := He.glo_ok X G (c.fact 13 (f := .glo "_law_any") rfl)
  have F__law_stock := c.def_ 14 (d := mkD "_law_stock" 27) rfl
  have g__law_stock := He.glo_ok X G (c.fact 14 (f := .glo "_law_stock") rfl)
  have F__law_pieces := c.def_ 15 (d := mkD "_law_pieces" 28) rfl
  have g__law_pieces := He.glo_ok X G (c.fact 15 (f := .glo "_law_pieces") rfl)
  have F__law_cost := c.def_ 16 (d := mkD "_law_cost" 29) rfl
  have g__law_cost := He.glo_ok X G (c.fact 16 (f := .glo "_law_cost") rfl)
  have F__law_stock_right := c.def_ 17 (d := mkD "_law_stock_right" 30) rfl
  have g__law_stock_right := He.glo_ok X G (c.fact 17 (f := .glo "_law_stock_right") rfl)
  have F_law := c.def_ 18 (d := mkD "law" 31) rfl
  have g_law := He.glo_ok X G (c.fact 18 (f := .glo "law") rfl)
  obtain ⟨fd, F⟩ := F_law
  have e := hfa.symm.trans g_law
  cases e
  have b := FunD.bindsA (ps := ["script"]) F fun _ _ _ _ _ _ us hl => match us, hl with | [_], _ => rfl
  refine ⟨fd, fun s v => b s [v] rfl, fun base _ _ => ?_⟩
  have K_is_integer : Kn P w K mg base 1 "is_integer" 1 (ph_is_integer (He.ga K)) := kn_is_integer T F_is_integer g_is_integer 
  have K_is_within : Kn P w K mg base 2 "is_within" 3 (ph_is_within (He.ga K)) := kn_is_within T F_is_within g_is_within K_is_integer
  have K_is_deed : Kn P w K mg base 3 "is_deed" 1 (ph_is_deed (He.ga K)) := kn_is_deed T F_is_deed g_is_deed K_is_within
  have K_check_stock : Kn P w K mg base 4 "check_stock" 1 (ph_check_stock (He.ga K)) := kn_check_stock T F_check_stock g_check_stock K_is_deed
  have K_taken : Kn P w K mg base 1 "taken" 3 (ph_taken (He.ga K)) := kn_taken T F_taken g_taken 
  have K_gone_through : Kn P w K mg base 2 "gone_through" 2 (ph_gone_through (He.ga K)) := kn_gone_through T F_gone_through g_gone_through K_taken
  have K_there : Kn P w K mg base 5 "there" 1 (ph_there (He.ga K)) := kn_there T F_there g_there K_gone_through K_check_stock
  have K_cost_out : Kn P w K mg base 5 "cost_out" 1 (ph_cost_out (He.ga K)) := kn_cost_out T F_cost_out g_cost_out K_gone_through K_check_stock
  have K_worth_there : Kn P w K mg base 5 "worth_there" 1 (ph_worth_there (He.ga K)) := kn_worth_there T F_worth_there g_worth_there K_gone_through K_check_stock
  have K_layers : Kn P w K mg base 5 "layers" 1 (ph_layers (He.ga K)) := kn_layers T F_layers g_layers K_gone_through K_check_stock
  have K_most_there : Kn P w K mg base 5 "most_there" 1 (ph_most_there (He.ga K)) := kn_most_there T F_most_there g_most_there K_check_stock
  have K__law_hand : Kn P w K mg base 1 "_law_hand" 1 (ph__law_hand (He.ga K)) := kn__law_hand T F__law_hand g__law_hand 
  have K__law_draw : Kn P w K mg base 1 "_law_draw" 2 (ph__law_draw (He.ga K)) := kn__law_draw T F__law_draw g__law_draw 
  have K__law_any : Kn P w K mg base 2 "_law_any" 2 (ph__law_any (He.ga K)) := kn__law_any T F__law_any g__law_any K__law_draw
  have K__law_stock : Kn P w K mg base 3 "_law_stock" 1 (ph__law_stock (He.ga K)) := kn__law_stock T F__law_stock g__law_stock K__law_draw K__law_any
  have K__law_pieces : Kn P w K mg base 1 "_law_pieces" 1 (ph__law_pieces (He.ga K)) := kn__law_pieces T F__law_pieces g__law_pieces 
  have K__law_cost : Kn P w K mg base 1 "_law_cost" 1 (ph__law_cost (He.ga K)) := kn__law_cost T F__law_cost g__law_cost 
  have K__law_stock_right : Kn P w K mg base 6 "_law_stock_right" 2 (ph__law_stock_right (He.ga K)) := kn__law_stock_right T F__law_stock_right g__law_stock_right K_most_there K_cost_out K_layers K_there K__law_draw K_worth_there K__law_cost K__law_pieces
  exact fn_law T F K__law_stock K__law_stock_right K_most_there K_cost_out K_layers K_there K_worth_there K__law_hand
end K66
open PySem PySem.W PySem.Calls PyProof.Rows
theorem PySem.Challenge.cw_postshire_k66_whole_stamps_in_stock_holds : PySem.Challenge.rw_postshire_k66_whole_stamps_in_stock.Holds := by
  w_on; o_law
  refine HandSHeadRun.head_any (r := OpenLaw.row PySem.Challenge.rw_postshire_k66_whole_stamps_in_stock) (q := view (OpenLaw.row PySem.Challenge.rw_postshire_k66_whole_stamps_in_stock).prog [31]) (H := K66.hk) (ob := K66.ob) (M := 1500) (loose := K66.names) (d := HandSHeadRun.topDef (OpenLaw.row PySem.Challenge.rw_postshire_k66_whole_stamps_in_stock).prog 31) (kwd := []) K66.ob_eq
    (by kernel_rfl) (fun s => by kernel_rfl) K66.run (by kernel_rfl) (by kernel_rfl) (by kernel_rfl) (by rfl) (by first | assumption | decide +kernel) (by decide +kernel) ⟨rfl, rfl, rfl, rfl, rfl, by decide +kernel⟩ ?hw ?hc
  case hw => w_witness2
  case hc =>
    refine L2.walk_ofE (l := PySem.Challenge.rw_postshire_k66_whole_stamps_in_stock) (n := 63) (k := 7) (x := "script") (CX := DL.CXu (PySem.Challenge.rw_postshire_k66_whole_stamps_in_stock).prog) rfl (by decide) (by kernel_rfl) ⟨rfl, by decide, by decide⟩ ?F DL.cxu_none
    intro w mg fa h Y G hmg0
    obtain ⟨K, KX, c⟩ := Y
    have hmg : mg ("law" : PySem.Str) = some (.ref fa) := by
      have e : (HandSHeadRun.topDef (OpenLaw.row PySem.Challenge.rw_postshire_k66_whole_stamps_in_stock).prog 31).name = ("law" : PySem.Str) := by kernel_rfl
      rw [← e]
      exact hmg0
    obtain ⟨fd, hb, hF⟩ := K66.facts (P := (PySem.Challenge.rw_postshire_k66_whole_stamps_in_stock).prog) (w := w) KX G hmg c
    exact ⟨K, fd, DL.SpF K 1 (K66.ph_law (He.ga K)), KX, hb, fun H a ns hl _ hS => DL.law_start hS ⟨ns, rfl, hl, rfl⟩, fun base b1 b2 => DL.fn_cx (hF base b1 b2) fun _ _ _ _ _ _ z => ⟨w, z⟩⟩

