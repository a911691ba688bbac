import PyProof.Rows.All
import Wide.All
import OpenK.AllK
import Wide.FinOn
import HandS.ForMost
import HandS.Flow
import HandS.TupAny
import HandS.Walk
import HandS.More
import HandS.Zip
import HandS.Style
import HandS.IsInst
import HandS.Conv
import HandS.TupMul
import KE.SortData
import KE.KRevSl
import PySem.Challenge.RW_allmails_k22_whole_sidings_or_knots
set_option Elab.async false
set_option linter.all false
set_option maxRecDepth 100000
set_option maxHeartbeats 4000000
/-! Pure values, their standing in the abstract heap, and the state of a def told by pure values. -/
namespace Pv
open PySem PySem.Spec PyProof.Rows L2

inductive PV where
  | non | bl (b : Bool) | int (i : Int) | str (l : List Nat)
  | tup (xs : List PV) | lst (xs : List PV) | dic (ks : List PV) (vs : List PV) | set (xs : List PV) | scr (ns : List Int)

def mkS (l : List Nat) : Str := ⟨l.toArray⟩
theorem mkS_list (l : List Nat) : (mkS l).cps.toList = l := by simp [mkS]
theorem mkS_inj {a b : List Nat} (h : mkS a = mkS b) : a = b := by
  have := congrArg (fun s : Str => s.cps.toList) h
  simpa [mkS] using this

mutual
def Rep (K : PySem.W.Frag) (F : Hp) : PV → V → Prop
  | .non, v => v = .non
  | .bl b, v => v = .bl b
  | .int i, v => v = .int i
  | .str l, v => v = .str (mkS l)
  | .tup xs, v => ∃ a vs, v = .ref a ∧ SqT K F a vs ∧ RepL K F xs vs
  | .lst xs, v => ∃ a vs, v = .ref a ∧ F a = some (.lst vs) ∧ RepL K F xs vs
  | .dic ks vs, v => False
  | .set xs, v => False
  | .scr ns, v => ∃ a, v = .ref a ∧ SqL K F a (ns.map V.int)
def RepL (K : PySem.W.Frag) (F : Hp) : List PV → List V → Prop
  | [], vs => vs = []
  | x :: xs, vs => ∃ v r, vs = v :: r ∧ Rep K F x v ∧ RepL K F xs r
end
theorem RepL.cons {K : PySem.W.Frag} {F : Hp} {x : PV} {xs : List PV} {v : V} {vs : List V} (a : Rep K F x v) (b : RepL K F xs vs) : RepL K F (x :: xs) (v :: vs) := ⟨v, vs, rfl, a, b⟩
theorem Same.sqT {K : PySem.W.Frag} {H H' : Hp} {a : Addr} {xs : List V} (e : Same H H') (h : SqT K H a xs) : SqT K H' a xs := by
  rcases h with (h | ⟨o, h⟩) | h
  · exact .inl (.inl (e _ _ h))
  · exact .inl (.inr ⟨o, e _ _ h⟩)
  · exact .inr h
mutual
theorem Rep.mono {K : PySem.W.Frag} {F F' : Hp} (e : Same F F') : ∀ (p : PV) (v : V), Rep K F p v → Rep K F' p v
  | .non, _, h => h
  | .bl _, _, h => h
  | .int _, _, h => h
  | .str _, _, h => h
  | .tup xs, _, h => by
    obtain ⟨a, vs, e1, e2, e3⟩ := h
    exact ⟨a, vs, e1, Same.sqT e e2, RepL.mono e xs vs e3⟩
  | .lst xs, _, h => by
    obtain ⟨a, vs, e1, e2, e3⟩ := h
    exact ⟨a, vs, e1, e _ _ e2, RepL.mono e xs vs e3⟩
  | .dic _ _, _, h => h.elim
  | .set _, _, h => h.elim
  | .scr _, _, h => by
    obtain ⟨a, e1, e2⟩ := h
    exact ⟨a, e1, e.seq e2⟩
theorem RepL.mono {K : PySem.W.Frag} {F F' : Hp} (e : Same F F') : ∀ (p : List PV) (v : List V), RepL K F p v → RepL K F' p v
  | [], _, h => h
  | x :: xs, _, h => by
    obtain ⟨v, r, e1, e2, e3⟩ := h
    exact ⟨v, r, e1, Rep.mono e x v e2, RepL.mono e xs r e3⟩
end
theorem RepL.length {K : PySem.W.Frag} {F : Hp} : ∀ {xs : List PV} {vs : List V}, RepL K F xs vs → xs.length = vs.length
  | [], _, h => by cases h; rfl
  | _ :: _, _, h => by
    obtain ⟨v, r, e1, _, e3⟩ := h
    rw [e1, List.length_cons, List.length_cons, RepL.length e3]
theorem RepL.get {K : PySem.W.Frag} {F : Hp} : ∀ {xs : List PV} {vs : List V} {i : Nat} {x : PV}, RepL K F xs vs → xs[i]? = some x → ∃ v, vs[i]? = some v ∧ Rep K F x v
  | [], _, _, _, _, h => by simp at h
  | y :: ys, _, 0, x, h, e => by
    obtain ⟨v, r, e1, e2, e3⟩ := h
    simp at e
    subst e e1
    exact ⟨v, rfl, e2⟩
  | y :: ys, _, i + 1, x, h, e => by
    obtain ⟨v, r, e1, e2, e3⟩ := h
    subst e1
    simp only [List.getElem?_cons_succ] at e ⊢
    exact RepL.get e3 e
theorem RepL.getV {K : PySem.W.Frag} {F : Hp} : ∀ {xs : List PV} {vs : List V} {i : Nat} {v : V}, RepL K F xs vs → vs[i]? = some v → ∃ x, xs[i]? = some x ∧ Rep K F x v
  | [], _, _, _, h, e => by cases h; simp at e
  | y :: ys, _, 0, v, h, e => by
    obtain ⟨v, r, e1, e2, e3⟩ := h
    subst e1
    simp at e
    subst e
    exact ⟨y, rfl, e2⟩
  | y :: ys, _, i + 1, x, h, e => by
    obtain ⟨v, r, e1, e2, e3⟩ := h
    subst e1
    simp only [List.getElem?_cons_succ] at e ⊢
    exact RepL.getV e3 e
theorem RepL.append {K : PySem.W.Frag} {F : Hp} : ∀ {xs ys : List PV} {vs ws : List V}, RepL K F xs vs → RepL K F ys ws → RepL K F (xs ++ ys) (vs ++ ws)
  | [], _, _, _, h, g => by cases h; exact g
  | x :: xs, _, _, _, h, g => by
    obtain ⟨v, r, e1, e2, e3⟩ := h
    subst e1
    exact ⟨v, _, rfl, e2, RepL.append e3 g⟩
/-- by places -/
theorem RepL.of {K : PySem.W.Frag} {F : Hp} : ∀ {xs : List PV} {vs : List V}, xs.length = vs.length → (∀ (i : Nat) (x : PV) (v : V), xs[i]? = some x → vs[i]? = some v → Rep K F x v) → RepL K F xs vs
  | [], [], _, _ => rfl
  | [], _ :: _, h, _ => by simp at h
  | _ :: _, [], h, _ => by simp at h
  | x :: xs, v :: vs, h, g => ⟨v, vs, rfl, g 0 x v rfl rfl, RepL.of (by simpa using h) fun i y w e1 e2 => g (i + 1) y w (by simpa using e1) (by simpa using e2)⟩
theorem RepL.mem {K : PySem.W.Frag} {F : Hp} {xs : List PV} {vs : List V} {v : V} (h : RepL K F xs vs) (hv : v ∈ vs) : ∃ x, x ∈ xs ∧ Rep K F x v := by
  obtain ⟨i, hi⟩ := List.getElem?_of_mem hv
  obtain ⟨x, e, r⟩ := h.getV hi
  exact ⟨x, List.mem_of_getElem? e, r⟩

/-! ### what a value is at the top: its object read in H, what is within it in F -/
def RepB (K : PySem.W.Frag) (F H : Hp) : PV → V → Prop
  | .lst xs, v => ∃ a vs, v = .ref a ∧ H a = some (.lst vs) ∧ RepL K F xs vs
  | p, v => Rep K F p v
theorem RepB.of {K : PySem.W.Frag} {F H : Hp} (e : Same F H) {p : PV} {v : V} (h : Rep K F p v) : RepB K F H p v := by
  cases p with
  | lst xs =>
    obtain ⟨a, vs, e1, e2, e3⟩ := h
    exact ⟨a, vs, e1, e _ _ e2, e3⟩
  | _ => exact h
def OwnRep (K : PySem.W.Frag) (F H : Hp) : PV → Addr → Prop
  | .lst xs, a => ∃ vs, H a = some (.lst vs) ∧ RepL K F xs vs
  | _, _ => False
theorem OwnRep.repB {K : PySem.W.Frag} {F H : Hp} {p : PV} {a : Addr} (h : OwnRep K F H p a) : RepB K F H p (.ref a) := by
  cases p with
  | lst xs =>
    obtain ⟨vs, e1, e2⟩ := h
    exact ⟨a, vs, rfl, e1, e2⟩
  | _ => exact h.elim
theorem OwnRep.mono {K : PySem.W.Frag} {F F' H H' : Hp} {p : PV} {a : Addr} (e : Same F F') (e2 : ∀ o, H a = some o → H' a = some o) (h : OwnRep K F H p a) : OwnRep K F' H' p a := by
  cases p with
  | lst xs =>
    obtain ⟨vs, e1, e3⟩ := h
    exact ⟨vs, e2 _ e1, e3.mono e⟩
  | _ => exact h.elim
theorem OwnRep.there {K : PySem.W.Frag} {F H : Hp} {p : PV} {a : Addr} (h : OwnRep K F H p a) : ∃ o, H a = some o := by
  cases p with
  | lst xs => exact ⟨_, h.choose_spec.1⟩
  | _ => exact h.elim
/-- frozen -/
theorem OwnRep.frozen {K : PySem.W.Frag} {F H : Hp} {p : PV} {a : Addr} {o : HO} (h : OwnRep K F H p a) (n : F a = none) (ho : H a = some o) : Rep K (upd F a o) p (.ref a) := by
  have sf : Same F (upd F a o) := fun b u e => by rw [upd_ne (ne_of_none e n)]; exact e
  cases p with
  | lst xs =>
    obtain ⟨vs, e1, e3⟩ := h
    rw [ho] at e1
    cases e1
    exact ⟨a, vs, rfl, upd_same, e3.mono sf⟩
  | _ => exact h.elim

/-! ### a heap that goes on -/
def isTbl : HO → Bool
  | .tbl _ => true
  | _ => false
/-- all that is tracked stays; tables may grow -/
structure Kp (H H' : Hp) : Prop where
  at_ : ∀ b o, H b = some o → isTbl o = false → H' b = some o
  tb : ∀ b ps, H b = some (.tbl ps) → ∃ qs, H' b = some (.tbl qs)
theorem Kp.refl (H : Hp) : Kp H H := ⟨fun _ _ h _ => h, fun _ ps h => ⟨ps, h⟩⟩
theorem Kp.trans {H H1 H2 : Hp} (a : Kp H H1) (b : Kp H1 H2) : Kp H H2 :=
  ⟨fun c o h t => b.at_ c o (a.at_ c o h t) t, fun c ps h => let ⟨_, q⟩ := a.tb c ps h; b.tb c _ q⟩
theorem Kp.of {H H' : Hp} (s : Same H H') : Kp H H' := ⟨fun b o h _ => s b o h, fun b ps h => ⟨ps, s b _ h⟩⟩
theorem Kp.free {H H' : Hp} (k : Kp H H') {a : Addr} (h : H' a = none) : H a = none := by
  cases q : H a with
  | none => rfl
  | some o =>
    cases t : isTbl o with
    | false => rw [k.at_ a o q t] at h; cases h
    | true =>
      cases o with
      | tbl ps => obtain ⟨qs, z⟩ := k.tb a ps q; rw [z] at h; cases h
      | _ => cases t
theorem same_upd {H : Hp} {p : Addr} {o : HO} (n : H p = none) : Same H (upd H p o) := fun b u e => by rw [upd_ne (ne_of_none e n)]; exact e

/-- the heap's part of a def's state: F frozen, H all; F0, H0 at the def's entry -/
structure HR (F0 H0 F H : Hp) : Prop where
  f0 : Same F0 F
  h0 : Kp H0 H
  fh : Same F H
  nt : ∀ a o, F a = some o → isTbl o = false
  fnew : ∀ a o, F a = some o → F0 a = none → H0 a = none

inductive Slot where
  | none | fr (v : PV) | ow (v : PV)
abbrev Env := List Slot
/-- the state of a def: its slots told by pure values -/
structure SR (K : PySem.W.Frag) (F0 H0 : Hp) (env : Env) (F : Hp) (σ : L2.St) (H : Hp) : Prop extends HR F0 H0 F H where
  len : σ.length = env.length
  fr : ∀ (i : Nat) (v : PV), env[i]? = some (.fr v) → ∃ x, σ[i]? = some (some x) ∧ Rep K F v x
  ow : ∀ (i : Nat) (v : PV), env[i]? = some (.ow v) → ∃ a, σ[i]? = some (some (.ref a)) ∧ F a = none ∧ H0 a = none ∧ OwnRep K F H v a
  dj : ∀ (i j : Nat) (v w : PV) (a : Addr), env[i]? = some (.ow v) → env[j]? = some (.ow w) → σ[i]? = some (some (.ref a)) → σ[j]? = some (some (.ref a)) → i = j

/-- what an operation may do: new objects, new frozen ones among them -/
structure Gr (F H F' H' : Hp) : Prop where
  ff : Same F F'
  hh : Kp H H'
  fh : Same F' H'
  nt : ∀ a o, F' a = some o → F a = none → isTbl o = false
  nw : ∀ a o, F' a = some o → F a = none → H a = none
theorem Gr.refl {F H : Hp} (e : Same F H) : Gr F H F H := ⟨Same.refl F, Kp.refl H, e, fun a o h n => by (rw [n] at h; cases h), fun a o h n => by (rw [n] at h; cases h)⟩
theorem HR.gr {F0 H0 F H F' H' : Hp} (S : HR F0 H0 F H) (g : Gr F H F' H') : HR F0 H0 F' H' where
  f0 := S.f0.trans g.ff
  h0 := S.h0.trans g.hh
  fh := g.fh
  nt := fun a o h => by
    cases q : F a with
    | none => exact g.nt a o h q
    | some u =>
      have := g.ff a u q
      rw [h] at this
      cases this
      exact S.nt a o q
  fnew := fun a o h n => by
    cases q : F a with
    | none => exact S.h0.free (g.nw a o h q)
    | some u =>
      have := g.ff a u q
      rw [h] at this
      cases this
      exact S.fnew a o q n
section
variable {K : PySem.W.Frag} {F0 H0 F H F' H' : Hp} {env : Env} {σ : L2.St}
theorem OwnRep.ntbl {p : PV} {a : Addr} {o : HO} (h : OwnRep K F H p a) (e : H a = some o) : isTbl o = false := by
  cases p with
  | lst xs =>
    obtain ⟨vs, e1, _⟩ := h
    rw [e1] at e
    cases e
    rfl
  | _ => exact h.elim
theorem SR.gr (S : SR K F0 H0 env F σ H) (g : Gr F H F' H') : SR K F0 H0 env F' σ H' where
  toHR := S.toHR.gr g
  len := S.len
  fr := fun i v e => let ⟨x, h1, h2⟩ := S.fr i v e; ⟨x, h1, h2.mono g.ff⟩
  ow := fun i v e => by
    obtain ⟨a, h1, h2, h3, h4⟩ := S.ow i v e
    refine ⟨a, h1, ?_, h3, h4.mono g.ff fun o ho => g.hh.at_ a o ho (h4.ntbl ho)⟩
    cases q : F' a with
    | none => rfl
    | some o =>
      obtain ⟨u, hu⟩ := h4.there
      rw [g.nw a o q h2] at hu
      cases hu
  dj := S.dj
/-- a new object beside -/
theorem Gr.beside (e : Same F H) {p : Addr} {o : HO} (n : H p = none) : Gr F H F (upd H p o) :=
  ⟨Same.refl F, Kp.of (same_upd n), e.trans (same_upd n), fun a o h n => by (rw [n] at h; cases h), fun a o h n => by (rw [n] at h; cases h)⟩
theorem Gr.within (e : Same F H) {p : Addr} {o : HO} (n : H p = none) (t : isTbl o = false) : Gr F H (upd F p o) (upd H p o) := by
  have nF : F p = none := e.free n
  refine ⟨same_upd nF, Kp.of (same_upd n), fun b u h => ?_, fun a u h q => ?_, fun a u h q => ?_⟩
  · by_cases hb : b = p
    · subst hb; rw [upd_same] at h ⊢; exact h
    · rw [upd_ne hb] at h ⊢; exact e b u h
  · by_cases hb : a = p
    · subst hb; rw [upd_same] at h; cases h; exact t
    · rw [upd_ne hb, q] at h; cases h
  · by_cases hb : a = p
    · subst hb; exact n
    · rw [upd_ne hb, q] at h; cases h
theorem Gr.trans {F1 H1 F2 H2 : Hp} (a : Gr F H F1 H1) (b : Gr F1 H1 F2 H2) : Gr F H F2 H2 where
  ff := a.ff.trans b.ff
  hh := a.hh.trans b.hh
  fh := b.fh
  nt := fun c o h n => by
    cases q : F1 c with
    | none => exact b.nt c o h q
    | some u =>
      have := b.ff c u q
      rw [h] at this
      cases this
      exact a.nt c o q n
  nw := fun c o h n => by
    cases q : F1 c with
    | none => exact a.hh.free (b.nw c o h q)
    | some u =>
      have := b.ff c u q
      rw [h] at this
      cases this
      exact a.nw c o q n
end
end Pv
/-! What expressions are worth by pure values: the judgements, arguments, operations. -/
namespace Pv
open PySem PySem.Spec PyProof.Rows L2

abbrev SE := Env → Option (PV × Env)
/-- frozen result -/
def tEv (K : PySem.W.Frag) (f : SE) : TE := fun σ H Q => ∃ F0 H0 env F v env', SR K F0 H0 env F σ H ∧ f env = some (v, env') ∧
  ∀ x F' H', SR K F0 H0 env' F' σ H' → Same F F' → Rep K F' v x → Q x H'
/-- p is not the object of an owned slot -/
def NoSlot (env : Env) (σ : L2.St) (p : Addr) : Prop := ∀ (i : Nat) (w : PV), env[i]? = some (.ow w) → σ[i]? ≠ some (some (.ref p))
/-- a new object of the def's own -/
def tNw (K : PySem.W.Frag) (f : SE) : TE := fun σ H Q => ∃ F0 H0 env F v env', SR K F0 H0 env F σ H ∧ f env = some (v, env') ∧
  ∀ p F' H', SR K F0 H0 env' F' σ H' → Same F F' → F' p = none → H0 p = none → OwnRep K F' H' v p → NoSlot env' σ p → Q (.ref p) H'
/-- a test -/
abbrev SB := Env → Option (Bool × Env)
def tTv (K : PySem.W.Frag) (f : SB) : TT := fun σ H Q => ∃ F0 H0 env F b env', SR K F0 H0 env F σ H ∧ f env = some (b, env') ∧
  ∀ F' H', SR K F0 H0 env' F' σ H' → Same F F' → Q b H'

section
variable {X : Cx} {e : Expr} {t t' : TE}
theorem PE.imp (h : PE X e t) (i : ∀ σ H Q, t' σ H Q → t σ H Q) : PE X e t' := ⟨fun pins s σ H Q I q => h.run pins s σ H Q I (i σ H Q q)⟩
theorem PT.imp {t t' : TT} (h : PT X e t) (i : ∀ σ H Q, t' σ H Q → t σ H Q) : PT X e t' := ⟨fun pins s σ H Q I q => h.run pins s σ H Q I (i σ H Q q)⟩
theorem PW.imp {t t' : TT} (h : PW X e t) (i : ∀ σ H Q, t' σ H Q → t σ H Q) : PW X e t' := ⟨fun wh pins s σ H Q I q => h.run wh pins s σ H Q I (i σ H Q q)⟩
end

section
variable {K : PySem.W.Frag} {F0 H0 F H F' H' : Hp} {env : Env} {σ : L2.St}
/-- an owned object (not a slot's) is frozen -/
theorem SR.freezeP {p : Addr} {v : PV} (S : SR K F0 H0 env F σ H) (n : F p = none) (n0 : H0 p = none) (r : OwnRep K F H v p) (ns : NoSlot env σ p) :
    ∃ F', SR K F0 H0 env F' σ H ∧ Same F F' ∧ Rep K F' v (.ref p) := by
  obtain ⟨o, ho⟩ := r.there
  have st : isTbl o = false := r.ntbl ho
  refine ⟨upd F p o, ⟨⟨S.f0.trans (same_upd n), S.h0, fun b u h => ?_, fun b u h => ?_, fun b u h q => ?_⟩, S.len, fun i v e => ?_, fun i v e => ?_, S.dj⟩, same_upd n, r.frozen n ho⟩
  · by_cases hb : b = p
    · subst hb; rw [upd_same] at h; cases h; exact ho
    · rw [upd_ne hb] at h; exact S.fh b u h
  · by_cases hb : b = p
    · subst hb; rw [upd_same] at h; cases h; exact st
    · rw [upd_ne hb] at h; exact S.nt b u h
  · by_cases hb : b = p
    · subst hb; exact n0
    · rw [upd_ne hb] at h; exact S.fnew b u h q
  · obtain ⟨x, h1, h2⟩ := S.fr i v e
    exact ⟨x, h1, h2.mono (same_upd n)⟩
  · obtain ⟨a, h1, h2, h3, h4⟩ := S.ow i v e
    have hap : a ≠ p := fun z => ns i v e (by rw [← z]; exact h1)
    exact ⟨a, h1, by rw [upd_ne hap]; exact h2, h3, h4.mono (same_upd n) fun _ q => q⟩
theorem tNw_ev {f : SE} {Q : VK} (h : tEv K f σ H Q) : tNw K f σ H Q := by
  obtain ⟨F0, H0, env, F, v, env', S, e, k⟩ := h
  refine ⟨F0, H0, env, F, v, env', S, e, fun p F' H' S' sf n n0 r ns => ?_⟩
  obtain ⟨F2, S2, s2, r2⟩ := S'.freezeP n n0 r ns
  exact k _ F2 H' S2 (sf.trans s2) r2
theorem ev_of_nw {X : Cx} {e : Expr} {f : SE} (h : PE X e (tNw X.K f)) : PE X e (tEv X.K f) := PE.imp h fun _ _ _ q => tNw_ev q
/-- a slot is frozen -/
theorem getElem?_set_of {α : Type} {l : List α} {i j : Nat} {x y : α} (h : (l.set i x)[j]? = some y) : (i = j ∧ x = y ∧ i < l.length) ∨ (i ≠ j ∧ l[j]? = some y) := by
  rw [List.getElem?_set] at h
  split at h
  · rename_i e
    split at h
    · cases h; exact .inl ⟨e, rfl, by omega⟩
    · cases h
  · rename_i e; exact .inr ⟨e, h⟩
theorem SR.freezeSlot {i : Nat} {v : PV} (S : SR K F0 H0 env F σ H) (e : env[i]? = some (.ow v)) :
    ∃ F' a, SR K F0 H0 (env.set i (.fr v)) F' σ H ∧ Same F F' ∧ σ[i]? = some (some (.ref a)) ∧ Rep K F' v (.ref a) := by
  obtain ⟨a, h1, h2, h3, h4⟩ := S.ow i v e
  obtain ⟨o, ho⟩ := h4.there
  have st : isTbl o = false := h4.ntbl ho
  have rr := h4.frozen h2 ho
  refine ⟨upd F a o, a, ⟨⟨S.f0.trans (same_upd h2), S.h0, fun b u h => ?_, fun b u h => ?_, fun b u h q => ?_⟩, by rw [List.length_set]; exact S.len, fun j w ej => ?_, fun j w ej => ?_, fun j k w w' b ej ek => ?_⟩, same_upd h2, h1, rr⟩
  · by_cases hb : b = a
    · subst hb; rw [upd_same] at h; cases h; exact ho
    · rw [upd_ne hb] at h; exact S.fh b u h
  · by_cases hb : b = a
    · subst hb; rw [upd_same] at h; cases h; exact st
    · rw [upd_ne hb] at h; exact S.nt b u h
  · by_cases hb : b = a
    · subst hb; exact h3
    · rw [upd_ne hb] at h; exact S.fnew b u h q
  · rcases getElem?_set_of ej with ⟨hij, e1, _⟩ | ⟨_, e1⟩
    · subst hij
      cases e1
      exact ⟨_, h1, rr⟩
    · obtain ⟨x, q1, q2⟩ := S.fr j w e1
      exact ⟨x, q1, q2.mono (same_upd h2)⟩
  · rcases getElem?_set_of ej with ⟨_, e1, _⟩ | ⟨hne, e1⟩
    · cases e1
    · obtain ⟨b, q1, q2, q3, q4⟩ := S.ow j w e1
      have hba : b ≠ a := fun z => hne (S.dj i j v w a e e1 h1 (by rw [← z]; exact q1))
      exact ⟨b, q1, by rw [upd_ne hba]; exact q2, q3, q4.mono (same_upd h2) fun _ q => q⟩
  · rcases getElem?_set_of ej with ⟨_, e1, _⟩ | ⟨_, e1⟩
    · cases e1
    · rcases getElem?_set_of ek with ⟨_, e2, _⟩ | ⟨_, e2⟩
      · cases e2
      · exact S.dj j k w w' b e1 e2
end

/-! ### names, constants -/
/-- a name: what it holds is frozen from now on -/
@[simp] def xVar (i : Nat) : SE := fun env => match env[i]? with
  | some (.fr v) => some (v, env)
  | some (.ow v) => some (v, env.set i (.fr v))
  | _ => none
theorem ev_var {X : Cx} {e : Expr} (i : Nat) (h : PE X e (tVar i)) : PE X e (tEv X.K (xVar i)) := PE.imp h fun σ H Q q => by
  obtain ⟨F0, H0, env, F, v, env', S, e, k⟩ := q
  unfold xVar at e
  split at e
  · rename_i w ew
    cases e
    obtain ⟨x, h1, h2⟩ := S.fr i _ ew
    exact ⟨x, h1, k x F H S (Same.refl F) h2⟩
  · rename_i w ew
    cases e
    obtain ⟨F', a, S', sf, h1, h2⟩ := S.freezeSlot ew
    exact ⟨_, h1, k _ F' H S' sf h2⟩
  · cases e
@[simp] def xC (v : PV) : SE := fun env => some (v, env)
theorem ev_c {X : Cx} {e : Expr} {v : V} (p : PV) (h : PE X e (tC v)) (r : ∀ F, Rep X.K F p v) : PE X e (tEv X.K (xC p)) := PE.imp h fun σ H Q q => by
  obtain ⟨F0, H0, env, F, w, env', S, e, k⟩ := q
  cases e
  exact k v F H S (Same.refl F) (r F)
theorem ev_int {X : Cx} {i : Int} {j : Nat} {pos : Pos} : PE X (.Constant (.int i) j pos) (tEv X.K (xC (.int i))) := ev_c _ pe_int fun _ => rfl
theorem ev_bl {X : Cx} {b : Bool} {j : Nat} {pos : Pos} : PE X (.Constant (.bool b) j pos) (tEv X.K (xC (.bl b))) := ev_c _ pe_bl fun _ => rfl
theorem ev_non {X : Cx} {j : Nat} {pos : Pos} : PE X (.Constant .none j pos) (tEv X.K (xC .non)) := ev_c _ pe_non fun _ => rfl
theorem ev_str {X : Cx} {x : Str} {j : Nat} {pos : Pos} (l : List Nat) (h : x = mkS l) : PE X (.Constant (.str x) j pos) (tEv X.K (xC (.str l))) := ev_c _ pe_str fun _ => by rw [h]; rfl

/-! ### operands: borrowed names are read when the operation works -/
inductive Ar where
  | ex (f : SE) | bor (i : Nat)
def tAr (K : PySem.W.Frag) : Ar → TE
  | .ex f => tEv K f
  | .bor i => tVar i
@[simp] def Env.val (env : Env) (i : Nat) : Option PV := match env[i]? with
  | some (.fr v) => some v
  | some (.ow v) => some v
  | _ => none
@[simp] def xArgs : List Ar → Env → Option (List PV × Env)
  | [], env => some ([], env)
  | .ex f :: r, env => match f env with
    | some (v, e1) => match xArgs r e1 with
      | some (vs, e2) => some (v :: vs, e2)
      | none => none
    | none => none
  | .bor i :: r, env => match env.val i with
    | some _ => match xArgs r env with
      | some (vs, e2) => match e2.val i with
        | some v => some (v :: vs, e2)
        | none => none
      | none => none
    | none => none
def tArs (K : PySem.W.Frag) : List Ar → TA
  | [] => tNil
  | a :: r => tCons (tAr K a) (tArs K r)
def RepBL (K : PySem.W.Frag) (F H : Hp) : List PV → List V → Prop
  | [], vs => vs = []
  | x :: xs, vs => ∃ v r, vs = v :: r ∧ RepB K F H x v ∧ RepBL K F H xs r
section
variable {K : PySem.W.Frag} {F0 H0 F H F' H' : Hp} {env : Env} {σ : L2.St}
theorem SR.val {i : Nat} {v : PV} (S : SR K F0 H0 env F σ H) (e : env.val i = some v) : ∃ x, σ[i]? = some (some x) ∧ RepB K F H v x := by
  unfold Env.val at e
  split at e
  · rename_i w ew
    cases e
    obtain ⟨x, h1, h2⟩ := S.fr i _ ew
    exact ⟨x, h1, RepB.of S.fh h2⟩
  · rename_i w ew
    cases e
    obtain ⟨a, h1, h2, h3, h4⟩ := S.ow i _ ew
    exact ⟨_, h1, h4.repB⟩
  · cases e
theorem args_ok : ∀ (as : List Ar) {env env' : Env} {F H : Hp} {vs : List PV} {Q : List V → Hp → Prop}, SR K F0 H0 env F σ H → xArgs as env = some (vs, env') →
    (∀ xs F' H', SR K F0 H0 env' F' σ H' → Same F F' → RepBL K F' H' vs xs → Q xs H') → tArs K as σ H Q
  | [], _, _, F, H, _, _, S, e, k => by
    cases e
    exact k [] F H S (Same.refl F) rfl
  | .ex f :: r, env, env', F, H, vs, Q, S, e, k => by
    unfold xArgs at e
    split at e
    · rename_i v e1 ef
      split at e
      · rename_i ws e2 er
        cases e
        refine ⟨F0, H0, env, F, v, e1, S, ef, fun x F' H' S' sf rx => ?_⟩
        refine args_ok r S' er fun xs F2 H2 S2 sf2 rs => ?_
        exact k (x :: xs) F2 H2 S2 (sf.trans sf2) ⟨x, xs, rfl, RepB.of S2.fh (rx.mono sf2), rs⟩
      · cases e
    · cases e
  | .bor i :: r, env, env', F, H, vs, Q, S, e, k => by
    unfold xArgs at e
    split at e
    · rename_i v0 e0
      split at e
      · rename_i ws e2 er
        split at e
        · rename_i v ev
          cases e
          obtain ⟨x, hx, _⟩ := S.val e0
          refine ⟨x, hx, ?_⟩
          refine args_ok r S er fun xs F2 H2 S2 sf2 rs => ?_
          obtain ⟨y, hy, ry⟩ := S2.val ev
          rw [hx] at hy
          cases hy
          exact k (x :: xs) F2 H2 S2 sf2 ⟨x, xs, rfl, ry, rs⟩
        · cases e
      · cases e
    · cases e
end
/-- one, two operands -/
@[simp] def x1 (g : PV → Option PV) (a : Ar) : SE := fun env => match xArgs [a] env with
  | some ([v], e) => match g v with
    | some r => some (r, e)
    | none => none
  | _ => none
@[simp] def x2 (g : PV → PV → Option PV) (a b : Ar) : SE := fun env => match xArgs [a, b] env with
  | some ([v, w], e) => match g v w with
    | some r => some (r, e)
    | none => none
  | _ => none
@[simp] def xN (g : List PV → Option PV) (as : List Ar) : SE := fun env => match xArgs as env with
  | some (vs, e) => match g vs with
    | some r => some (r, e)
    | none => none
  | none => none
/-- what an operation on values does, by pure values -/
def R2Pv (K : PySem.W.Frag) (g : PV → PV → Option PV) (r : R2) : Prop := ∀ (F H : Hp) (p q c : PV) (x y : V) (Q : VK), Same F H → RepB K F H p x → RepB K F H q y → g p q = some c →
  (∀ v F' H', Gr F H F' H' → Rep K F' c v → Q v H') → r x y H Q
def R2Nw (K : PySem.W.Frag) (g : PV → PV → Option PV) (r : R2) : Prop := ∀ (F H : Hp) (p q c : PV) (x y : V) (Q : VK), Same F H → RepB K F H p x → RepB K F H q y → g p q = some c →
  (∀ l F' H', Gr F H F' H' → H l = none → F' l = none → OwnRep K F' H' c l → Q (.ref l) H') → r x y H Q
def R1Pv (K : PySem.W.Frag) (g : PV → Option PV) (r : V → Hp → VK → Prop) : Prop := ∀ (F H : Hp) (p c : PV) (x : V) (Q : VK), Same F H → RepB K F H p x → g p = some c →
  (∀ v F' H', Gr F H F' H' → Rep K F' c v → Q v H') → r x H Q
def RNPv (K : PySem.W.Frag) (g : List PV → Option PV) (r : List V → Hp → VK → Prop) : Prop := ∀ (F H : Hp) (ps : List PV) (c : PV) (xs : List V) (Q : VK), Same F H → RepBL K F H ps xs → g ps = some c →
  (∀ v F' H', Gr F H F' H' → Rep K F' c v → Q v H') → r xs H Q
def RNNw (K : PySem.W.Frag) (g : List PV → Option PV) (r : List V → Hp → VK → Prop) : Prop := ∀ (F H : Hp) (ps : List PV) (c : PV) (xs : List V) (Q : VK), Same F H → RepBL K F H ps xs → g ps = some c →
  (∀ l F' H', Gr F H F' H' → H l = none → F' l = none → OwnRep K F' H' c l → Q (.ref l) H') → r xs H Q
section
variable {X : Cx} {e : Expr} {a b : Ar} {as : List Ar}
theorem noSlot_new {K : PySem.W.Frag} {F0 H0 F H : Hp} {env : Env} {σ : L2.St} {l : Addr} (S : SR K F0 H0 env F σ H) (n : H l = none) : NoSlot env σ l := fun i w ei z => by
  obtain ⟨b, h1, _, _, h4⟩ := S.ow i w ei
  rw [h1] at z
  cases z
  obtain ⟨o, ho⟩ := h4.there
  rw [n] at ho
  cases ho
theorem x1_def {g : PV → Option PV} {env env' : Env} {c : PV} (h : x1 g a env = some (c, env')) : ∃ v, xArgs [a] env = some ([v], env') ∧ g v = some c := by
  unfold x1 at h
  split at h
  · rename_i v e ea
    split at h
    · rename_i r er
      cases h
      exact ⟨v, ea, er⟩
    · cases h
  · cases h
theorem x2_def {g : PV → PV → Option PV} {env env' : Env} {c : PV} (h : x2 g a b env = some (c, env')) : ∃ v w, xArgs [a, b] env = some ([v, w], env') ∧ g v w = some c := by
  unfold x2 at h
  split at h
  · rename_i v w e ea
    split at h
    · rename_i r er
      cases h
      exact ⟨v, w, ea, er⟩
    · cases h
  · cases h
theorem xN_def {g : List PV → Option PV} {env env' : Env} {c : PV} (h : xN g as env = some (c, env')) : ∃ vs, xArgs as env = some (vs, env') ∧ g vs = some c := by
  unfold xN at h
  split at h
  · rename_i vs e ea
    split at h
    · rename_i r er
      cases h
      exact ⟨vs, ea, er⟩
    · cases h
  · cases h
def on1 (r : V → Hp → VK → Prop) (Q : VK) : List V → Hp → Prop
  | [x], H => r x H Q
  | _, _ => False
def on2 (r : R2) (Q : VK) : List V → Hp → Prop
  | [x, y], H => r x y H Q
  | _, _ => False
theorem ev_op2 {g : PV → PV → Option PV} {r : R2} (h : PE X e (tOp r (tAr X.K a) (tAr X.K b))) (hr : R2Pv X.K g r) : PE X e (tEv X.K (x2 g a b)) := PE.imp h fun σ H Q q => by
  obtain ⟨F0, H0, env, F, c, env', S, e, k⟩ := q
  obtain ⟨v, w, ea, eg⟩ := x2_def e
  refine args_ok [a, b] (Q := on2 r Q) S ea fun xs F' H' S' sf rs => ?_
  obtain ⟨x, t, rfl, rx, y, t2, rfl, ry, rfl⟩ := rs
  exact hr F' H' v w c x y Q S'.fh rx ry eg fun u F2 H2 gr ru => k u F2 H2 (S'.gr gr) (sf.trans gr.ff) ru
theorem nw_op2 {g : PV → PV → Option PV} {r : R2} (h : PE X e (tOp r (tAr X.K a) (tAr X.K b))) (hr : R2Nw X.K g r) : PE X e (tNw X.K (x2 g a b)) := PE.imp h fun σ H Q q => by
  obtain ⟨F0, H0, env, F, c, env', S, e, k⟩ := q
  obtain ⟨v, w, ea, eg⟩ := x2_def e
  refine args_ok [a, b] (Q := on2 r Q) S ea fun xs F' H' S' sf rs => ?_
  obtain ⟨x, t, rfl, rx, y, t2, rfl, ry, rfl⟩ := rs
  exact hr F' H' v w c x y Q S'.fh rx ry eg fun l F2 H2 gr n n2 ru => k l F2 H2 (S'.gr gr) (sf.trans gr.ff) n2 (S'.h0.free n) ru (noSlot_new S' n)
theorem ev_op1 {g : PV → Option PV} {r : V → Hp → VK → Prop} (h : PE X e (tUn r (tAr X.K a))) (hr : R1Pv X.K g r) : PE X e (tEv X.K (x1 g a)) := PE.imp h fun σ H Q q => by
  obtain ⟨F0, H0, env, F, c, env', S, e, k⟩ := q
  obtain ⟨v, ea, eg⟩ := x1_def e
  refine args_ok [a] (Q := on1 r Q) S ea fun xs F' H' S' sf rs => ?_
  obtain ⟨x, t, rfl, rx, rfl⟩ := rs
  exact hr F' H' v c x Q S'.fh rx eg fun u F2 H2 gr ru => k u F2 H2 (S'.gr gr) (sf.trans gr.ff) ru
theorem ev_opN {g : List PV → Option PV} {r : List V → Hp → VK → Prop} (h : PE X e (tCB r (tArs X.K as))) (hr : RNPv X.K g r) : PE X e (tEv X.K (xN g as)) := PE.imp h fun σ H Q q => by
  obtain ⟨F0, H0, env, F, c, env', S, e, k⟩ := q
  obtain ⟨vs, ea, eg⟩ := xN_def e
  refine args_ok as S ea fun xs F' H' S' sf rs => ?_
  exact hr F' H' vs c xs Q S'.fh rs eg fun u F2 H2 gr ru => k u F2 H2 (S'.gr gr) (sf.trans gr.ff) ru
theorem nw_opN {g : List PV → Option PV} {r : List V → Hp → VK → Prop} (h : PE X e (tCB r (tArs X.K as))) (hr : RNNw X.K g r) : PE X e (tNw X.K (xN g as)) := PE.imp h fun σ H Q q => by
  obtain ⟨F0, H0, env, F, c, env', S, e, k⟩ := q
  obtain ⟨vs, ea, eg⟩ := xN_def e
  refine args_ok as S ea fun xs F' H' S' sf rs => ?_
  exact hr F' H' vs c xs Q S'.fh rs eg fun l F2 H2 gr n n2 ru => k l F2 H2 (S'.gr gr) (sf.trans gr.ff) n2 (S'.h0.free n) ru (noSlot_new S' n)
end
/-! argument lists -/
section
variable {X : Cx} {e : Expr} {es : List Expr} {a : Ar} {as : List Ar}
theorem as_nil : PA X [] (tArs X.K []) := pa_nil
theorem as_cons (ha : PE X e (tAr X.K a)) (hr : PA X es (tArs X.K as)) (hs : starEach (e :: es) X.env = (false, eval e X.env) :: starEach es X.env) : PA X (e :: es) (tArs X.K (a :: as)) := pa_cons ha hr hs
end

/-! ### arithmetic -/
def sm (a : Int) : Bool := decide (a.natAbs < 2 ^ 64)
@[simp] def addP : PV → PV → Option PV
  | .int a, .int b => some (.int (a + b))
  | .str a, .str b => if a.length + b.length ≤ sizeLine then some (.str (a ++ b)) else none
  | .tup a, .tup b => if a.length + b.length ≤ sizeLine then some (.tup (a ++ b)) else none
  | .lst a, .lst b => if a.length + b.length ≤ sizeLine then some (.lst (a ++ b)) else none
  | _, _ => none
@[simp] def catP : PV → PV → Option PV
  | .lst a, .lst b => if a.length + b.length ≤ sizeLine then some (.lst (a ++ b)) else none
  | _, _ => none
@[simp] def subP : PV → PV → Option PV
  | .int a, .int b => some (.int (a - b))
  | _, _ => none
@[simp] def mulP : PV → PV → Option PV
  | .int a, .int b => if (sm a || sm b) = true then some (.int (a * b)) else none
  | _, _ => none
@[simp] def fdivP : PV → PV → Option PV
  | .int a, .int b => if b ≠ 0 ∧ b.natAbs < 1073741824 then some (.int (a.fdiv b)) else none
  | _, _ => none
@[simp] def modP : PV → PV → Option PV
  | .int a, .int b => if b ≠ 0 then some (.int (a.fmod b)) else none
  | _, _ => none
@[simp] def powP : PV → PV → Option PV
  | .int a, .int b => if 0 ≤ b ∧ b ≤ 1000000 ∧ a.natAbs < 2 ^ 64 then some (.int (a ^ b.toNat)) else none
  | _, _ => none
@[simp] def negP : PV → Option PV
  | .int a => some (.int (-a))
  | _ => none
section
variable {K : PySem.W.Frag} {F H : Hp}
theorem repB_int {i : Int} {x : V} (h : RepB K F H (.int i) x) : x = .int i := h
theorem repB_str {l : List Nat} {x : V} (h : RepB K F H (.str l) x) : x = .str (mkS l) := h
theorem repB_bl {b : Bool} {x : V} (h : RepB K F H (.bl b) x) : x = .bl b := h
theorem sm_of {a : Int} (h : sm a = true) : -(2 ^ 64) < a ∧ a < 2 ^ 64 := by
  unfold sm at h
  have := of_decide_eq_true h
  omega
theorem r2_sub : R2Pv K subP (rI0 fun i j => .int (i - j)) := fun F H p q c x y Q sf rx ry eg k => by
  unfold subP at eg
  split at eg
  · cases eg
    exact ⟨_, _, rx, ry, k _ F H (Gr.refl sf) rfl⟩
  · cases eg
end
end Pv
/-! Operators by pure values. -/
namespace Pv
open PySem PySem.Spec PyProof.Rows L2

theorem opOr {X : Cx} {f : Value → Value → Sem Value} {r r' : R2} (h : OpR X f r) (h' : OpR X f r') : OpR X f (fun x y H Q => r x y H Q ∨ r' x y H Q) := by
  intro pins s σ H x y v u Q I rx ry q
  rcases q with q | q
  · exact h pins s σ H x y v u Q I rx ry q
  · exact h' pins s σ H x y v u Q I rx ry q
theorem callOr {X : Cx} {f : Value} {r r' : List V → Hp → VK → Prop} (h : CallR X f r) (h' : CallR X f r') : CallR X f (fun xs H Q => r xs H Q ∨ r' xs H Q) := by
  intro pins s σ H xs us Q I rx q
  rcases q with q | q
  · exact h pins s σ H xs us Q I rx q
  · exact h' pins s σ H xs us Q I rx q

section
variable {K : PySem.W.Frag} {F H : Hp}
theorem mkS_len (l : List Nat) : (mkS l).length = l.length := by
  show (l.toArray).size = l.length
  simp
theorem mkS_app (a b : List Nat) : mkS a ++ mkS b = mkS (a ++ b) := by
  show (⟨a.toArray ++ b.toArray⟩ : Str) = ⟨(a ++ b).toArray⟩
  simp
theorem r2_add : R2Pv K addP (fun x y H Q => rI0 (fun i j => .int (i + j)) x y H Q ∨ (∃ i j, x = .str i ∧ y = .str j ∧ i.length + j.length ≤ sizeLine ∧ Q (.str (i ++ j)) H) ∨ rCatA K x y H Q ∨ rCat x y H Q) := fun F H p q c x y Q sf rx ry eg k => by
  unfold addP at eg
  split at eg
  · cases eg
    exact .inl ⟨_, _, rx, ry, k _ F H (Gr.refl sf) rfl⟩
  · rename_i a b
    split at eg
    · rename_i hz
      cases eg
      exact .inr (.inl ⟨_, _, rx, ry, by rw [mkS_len, mkS_len]; exact hz, k _ F H (Gr.refl sf) (by show V.str _ = V.str _; rw [mkS_app])⟩)
    · cases eg
  · rename_i a b
    split at eg
    · rename_i hz
      cases eg
      obtain ⟨p1, vs, rfl, h1, h2⟩ := rx
      obtain ⟨p2, ws, rfl, h3, h4⟩ := ry
      have l1 := h2.length
      have l2 := h4.length
      refine .inr (.inr (.inl ⟨p1, p2, vs, ws, rfl, rfl, Same.sqT sf h1, Same.sqT sf h3, by omega, fun e => ?_, fun _ e => ?_, fun _ _ l hl => ?_⟩))
      · have : a = [] := List.eq_nil_of_length_eq_zero (by rw [l1, e]; rfl)
        subst this
        exact k _ F H (Gr.refl sf) ⟨p2, ws, rfl, h3, h4⟩
      · have : b = [] := List.eq_nil_of_length_eq_zero (by rw [l2, e]; rfl)
        subst this
        rw [List.append_nil] at k
        exact k _ F H (Gr.refl sf) ⟨p1, vs, rfl, h1, h2⟩
      · have g := Gr.within sf (o := .tup (vs ++ ws)) hl rfl
        exact k _ _ _ g ⟨l, _, rfl, .inl (.inl upd_same), (h2.append h4).mono g.ff⟩
    · cases eg
  · rename_i a b
    split at eg
    · rename_i hz
      cases eg
      obtain ⟨p1, vs, rfl, h1, h2⟩ := rx
      obtain ⟨p2, ws, rfl, h3, h4⟩ := ry
      have l1 := h2.length
      have l2 := h4.length
      refine .inr (.inr (.inr ⟨p1, p2, vs, ws, rfl, rfl, h1, h3, by omega, fun l hl => ?_⟩))
      have g := Gr.within sf (o := .lst (vs ++ ws)) hl rfl
      exact k _ _ _ g ⟨l, _, rfl, upd_same, (h2.append h4).mono g.ff⟩
    · cases eg
  · cases eg
theorem rn_cat : R2Nw K catP (fun x y H Q => rI0 (fun i j => .int (i + j)) x y H Q ∨ (∃ i j, x = .str i ∧ y = .str j ∧ i.length + j.length ≤ sizeLine ∧ Q (.str (i ++ j)) H) ∨ rCatA K x y H Q ∨ rCat x y H Q) := fun F H p q c x y Q sf rx ry eg k => by
  unfold catP at eg
  split at eg
  · rename_i a b
    split at eg
    · rename_i hz
      cases eg
      obtain ⟨p1, vs, rfl, h1, h2⟩ := rx
      obtain ⟨p2, ws, rfl, h3, h4⟩ := ry
      have l1 := h2.length
      have l2 := h4.length
      refine .inr (.inr (.inr ⟨p1, p2, vs, ws, rfl, rfl, h1, h3, by omega, fun l hl => ?_⟩))
      exact k l F _ (Gr.beside sf hl) hl (sf.free hl) ⟨_, upd_same, h2.append h4⟩
    · cases eg
  · cases eg
theorem r2_mul : R2Pv K mulP (rI CMul fun i j => .int (i * j)) := fun F H p q c x y Q sf rx ry eg k => by
  unfold mulP at eg
  split at eg
  · split at eg
    · rename_i a b hs
      cases eg
      refine ⟨_, _, rx, ry, ?_, k _ F H (Gr.refl sf) rfl⟩
      rcases Bool.or_eq_true_iff.mp hs with h | h
      · exact .inl (sm_of h)
      · exact .inr (sm_of h)
    · cases eg
  · cases eg
theorem r2_fdiv : R2Pv K fdivP (rI CDivN fun i j => .int (i.fdiv j)) := fun F H p q c x y Q sf rx ry eg k => by
  unfold fdivP at eg
  split at eg
  · split at eg
    · rename_i hs
      cases eg
      exact ⟨_, _, rx, ry, hs, k _ F H (Gr.refl sf) rfl⟩
    · cases eg
  · cases eg
theorem r2_mod : R2Pv K modP (rI (fun _ j => j ≠ 0) fun i j => .int (i.fmod j)) := fun F H p q c x y Q sf rx ry eg k => by
  unfold modP at eg
  split at eg
  · split at eg
    · rename_i hs
      cases eg
      exact ⟨_, _, rx, ry, hs, k _ F H (Gr.refl sf) rfl⟩
    · cases eg
  · cases eg
theorem r2_pow : R2Pv K powP (rI CPow fun i j => .int (i ^ j.toNat)) := fun F H p q c x y Q sf rx ry eg k => by
  unfold powP at eg
  split at eg
  · split at eg
    · rename_i hs
      cases eg
      exact ⟨_, _, rx, ry, hs, k _ F H (Gr.refl sf) rfl⟩
    · cases eg
  · cases eg
theorem r1_neg : R1Pv K negP (rU fun i => .int (-i)) := fun F H p c x Q sf rx eg k => by
  unfold negP at eg
  split at eg
  · cases eg
    exact ⟨_, rx, k _ F H (Gr.refl sf) rfl⟩
  · cases eg
end
section
variable {X : Cx} {a b : Expr} {oa ob : Ar} {pos : Pos}
theorem ev_add (ha : PE X a (tAr X.K oa)) (hb : PE X b (tAr X.K ob)) : PE X (.BinOp a .Add b pos) (tEv X.K (x2 addP oa ob)) := ev_op2 (pe_op (opOr op_add (opOr op_add_str (opOr op_catA op_cat))) ha hb) r2_add
theorem nw_cat (ha : PE X a (tAr X.K oa)) (hb : PE X b (tAr X.K ob)) : PE X (.BinOp a .Add b pos) (tNw X.K (x2 catP oa ob)) := nw_op2 (pe_op (opOr op_add (opOr op_add_str (opOr op_catA op_cat))) ha hb) rn_cat
theorem ev_sub (ha : PE X a (tAr X.K oa)) (hb : PE X b (tAr X.K ob)) : PE X (.BinOp a .Sub b pos) (tEv X.K (x2 subP oa ob)) := ev_op2 (pe_op op_sub ha hb) r2_sub
theorem ev_mul (ha : PE X a (tAr X.K oa)) (hb : PE X b (tAr X.K ob)) : PE X (.BinOp a .Mult b pos) (tEv X.K (x2 mulP oa ob)) := ev_op2 (pe_op op_mul ha hb) r2_mul
theorem ev_fdiv (ha : PE X a (tAr X.K oa)) (hb : PE X b (tAr X.K ob)) : PE X (.BinOp a .FloorDiv b pos) (tEv X.K (x2 fdivP oa ob)) := ev_op2 (pe_op op_fdivN ha hb) r2_fdiv
theorem ev_mod (ha : PE X a (tAr X.K oa)) (hb : PE X b (tAr X.K ob)) : PE X (.BinOp a .Mod b pos) (tEv X.K (x2 modP oa ob)) := ev_op2 (pe_op op_modN ha hb) r2_mod
theorem ev_pow (ha : PE X a (tAr X.K oa)) (hb : PE X b (tAr X.K ob)) : PE X (.BinOp a .Pow b pos) (tEv X.K (x2 powP oa ob)) := ev_op2 (pe_op op_pow ha hb) r2_pow
theorem ev_neg (ha : PE X a (tAr X.K oa)) : PE X (.UnaryOp .USub a pos) (tEv X.K (x1 negP oa)) := ev_op1 (pe_un un_neg ha) r1_neg
end

/-! ### values as data: ==, !=, is None -/
mutual
def toD : PV → PyData
  | .non => .none
  | .bl b => .bool b
  | .int i => .int i
  | .str l => .str (mkS l)
  | .tup xs => .tuple (toDs xs)
  | .lst xs => .list (toDs xs)
  | .dic _ _ => .none
  | .set _ => .none
  | .scr _ => .none
def toDs : List PV → List PyData
  | [] => []
  | x :: xs => toD x :: toDs xs
end
mutual
/-- data alone -/
def pln : PV → Bool
  | .non => true
  | .bl _ => true
  | .int _ => true
  | .str l => l.all fun c => decide (c < 1114112)
  | .tup xs => plnL xs
  | .lst xs => plnL xs
  | .dic _ _ => false
  | .set _ => false
  | .scr _ => false
def plnL : List PV → Bool
  | [] => true
  | x :: xs => pln x && plnL xs
end
mutual
def dep : PV → Nat
  | .tup xs => depL xs + 1
  | .lst xs => depL xs + 1
  | _ => 0
def depL : List PV → Nat
  | [] => 0
  | x :: xs => max (dep x) (depL xs)
end
mutual
theorem toD_can : ∀ p : PV, pln p = true → (toD p).canLay0 = true
  | .non, _ => rfl
  | .bl _, _ => rfl
  | .int _, _ => rfl
  | .str l, h => by
    simp only [toD, PyData.canLay0, PyData.strOk, mkS, List.all_toArray]
    exact h
  | .tup xs, h => by rw [toD, PyData.canLay0]; exact toDs_can xs h
  | .lst xs, h => by rw [toD, PyData.canLay0]; exact toDs_can xs h
  | .dic _ _, _ => rfl
  | .set _, _ => rfl
  | .scr _, _ => rfl
theorem toDs_can : ∀ p : List PV, plnL p = true → PyData.canLayAll0 (toDs p) = true
  | [], _ => rfl
  | x :: xs, h => by
    have h' := Bool.and_eq_true_iff.mp h
    rw [toDs, PyData.canLayAll0, toD_can x h'.1, toDs_can xs h'.2]; rfl
end
mutual
theorem toD_dep : ∀ p : PV, (toD p).depth ≤ dep p
  | .non => by simp [toD, PyData.depth]
  | .bl _ => by simp [toD, PyData.depth]
  | .int _ => by simp [toD, PyData.depth]
  | .str _ => by simp [toD, PyData.depth]
  | .tup xs => by rw [toD, PyData.depth, dep]; have := toDs_dep xs; omega
  | .lst xs => by rw [toD, PyData.depth, dep]; have := toDs_dep xs; omega
  | .dic _ _ => by simp [toD, PyData.depth]
  | .set _ => by simp [toD, PyData.depth]
  | .scr _ => by simp [toD, PyData.depth]
theorem toDs_dep : ∀ p : List PV, PyData.depthAll (toDs p) ≤ depL p
  | [] => by simp [toDs, PyData.depthAll]
  | x :: xs => by rw [toDs, PyData.depthAll, depL]; have := toD_dep x; have := toDs_dep xs; omega
end
mutual
theorem Rep.dp {K : PySem.W.Frag} {F : Hp} : ∀ (p : PV) (v : V), pln p = true → Rep K F p v → Dp K F v (toD p)
  | .non, _, _, h => by cases h; exact .non
  | .bl _, _, _, h => by cases h; exact .bl _
  | .int _, _, _, h => by cases h; exact .int _
  | .str _, _, _, h => by cases h; exact .str _
  | .tup xs, _, g, h => by
    obtain ⟨a, vs, rfl, h1, h2⟩ := h
    exact .tup h1 (RepL.dp xs vs g h2)
  | .lst xs, _, g, h => by
    obtain ⟨a, vs, rfl, h1, h2⟩ := h
    exact .lst (SqL.of h1) (RepL.dp xs vs g h2)
  | .dic _ _, _, g, _ => by cases g
  | .set _, _, g, _ => by cases g
  | .scr _, _, g, _ => by cases g
theorem RepL.dp {K : PySem.W.Frag} {F : Hp} : ∀ (p : List PV) (v : List V), plnL p = true → RepL K F p v → DpAll K F v (toDs p)
  | [], _, _, h => by cases h; exact .nil
  | x :: xs, _, g, h => by
    obtain ⟨v, r, rfl, h1, h2⟩ := h
    have g' := Bool.and_eq_true_iff.mp g
    exact .cons (Rep.dp x v g'.1 h1) (RepL.dp xs r g'.2 h2)
end
theorem RepB.dp {K : PySem.W.Frag} {F H : Hp} (sf : Same F H) {p : PV} {v : V} (g : pln p = true) (h : RepB K F H p v) : Dp K H v (toD p) := by
  cases p with
  | lst xs =>
    obtain ⟨a, vs, rfl, h1, h2⟩ := h
    exact .lst (SqL.of h1) (RepL.dp xs vs g (h2.mono sf))
  | _ => exact Rep.dp _ _ g (Rep.mono sf _ _ h)
/-- comparable by ==: data, not too deep -/
def eqok (p : PV) : Bool := pln p && decide (dep p ≤ 64)
theorem eqok_shaped {p : PV} (h : eqok p = true) : pln p = true ∧ SeqAt.shaped (toD p) = true := by
  have h' := Bool.and_eq_true_iff.mp h
  have h2 := of_decide_eq_true h'.2
  have h3 := toD_dep p
  refine ⟨h'.1, ?_⟩
  show ((toD p).canLay0 && decide ((toD p).depth ≤ 64)) = true
  rw [toD_can p h'.1, decide_eq_true (show (toD p).depth ≤ 64 by omega)]
  rfl
def eqv (p q : PV) : Bool := PyData.eqv (toD p) (toD q)
@[simp] def eqP (p q : PV) : Option PV := if (eqok p && eqok q) = true then some (.bl (eqv p q)) else none
@[simp] def neP (p q : PV) : Option PV := if (eqok p && eqok q) = true then some (.bl (!eqv p q)) else none
@[simp] def isNon : PV → Bool
  | .non => true
  | _ => false
@[simp] def isNP (p q : PV) : Option PV := match q with
  | .non => some (.bl (isNon p))
  | _ => none
@[simp] def notNP (p q : PV) : Option PV := match q with
  | .non => some (.bl (!isNon p))
  | _ => none
@[simp] def cmpP (f : Int → Int → Bool) (g : List Nat → List Nat → Bool) : PV → PV → Option PV
  | .int a, .int b => some (.bl (f a b))
  | .str a, .str b => some (.bl (g a b))
  | _, _ => none
@[simp] def ltP : PV → PV → Option PV := cmpP (fun a b => decide (a < b)) (fun a b => decide (a < b))
@[simp] def leP : PV → PV → Option PV := cmpP (fun a b => decide (a ≤ b)) (fun a b => !decide (b < a))
@[simp] def gtP : PV → PV → Option PV := cmpP (fun a b => decide (b < a)) (fun a b => decide (b < a))
@[simp] def geP : PV → PV → Option PV := cmpP (fun a b => decide (b ≤ a)) (fun a b => !decide (a < b))
section
variable {K : PySem.W.Frag} {F H : Hp}
theorem r2_eq : R2Pv K eqP (rEqD K) := fun F H p q c x y Q sf rx ry eg k => by
  unfold eqP at eg
  split at eg
  · rename_i h
    cases eg
    have h' := Bool.and_eq_true_iff.mp h
    obtain ⟨a1, a2⟩ := eqok_shaped h'.1
    obtain ⟨b1, b2⟩ := eqok_shaped h'.2
    exact ⟨_, _, rx.dp sf a1, ry.dp sf b1, a2, b2, k _ F H (Gr.refl sf) rfl⟩
  · cases eg
theorem r2_ne : R2Pv K neP (rNeD K) := fun F H p q c x y Q sf rx ry eg k => by
  unfold neP at eg
  split at eg
  · rename_i h
    cases eg
    have h' := Bool.and_eq_true_iff.mp h
    obtain ⟨a1, a2⟩ := eqok_shaped h'.1
    obtain ⟨b1, b2⟩ := eqok_shaped h'.2
    exact ⟨_, _, rx.dp sf a1, ry.dp sf b1, a2, b2, k _ F H (Gr.refl sf) rfl⟩
  · cases eg
theorem RepB.isNon {p : PV} {x : V} (h : RepB K F H p x) : decide (x = .non) = isNon p := by
  cases p with
  | non => cases (show x = .non from h); rfl
  | bl b => cases (show x = .bl b from h); rfl
  | int b => cases (show x = .int b from h); rfl
  | str b => cases (show x = .str (mkS b) from h); rfl
  | tup xs => obtain ⟨a, vs, rfl, _⟩ := h; rfl
  | lst xs => obtain ⟨a, vs, rfl, _⟩ := h; rfl
  | dic _ _ => exact h.elim
  | set _ => exact h.elim
  | scr _ => obtain ⟨a, rfl, _⟩ := h; rfl
theorem r2_isN : R2Pv K isNP (fun x y H Q => y = .non ∧ Q (.bl (decide (x = .non))) H) := fun F H p q c x y Q sf rx ry eg k => by
  unfold isNP at eg
  split at eg
  · cases eg
    exact ⟨ry, k _ F H (Gr.refl sf) (by rw [rx.isNon]; rfl)⟩
  · cases eg
theorem r2_notN : R2Pv K notNP (fun x y H Q => y = .non ∧ Q (.bl (!decide (x = .non))) H) := fun F H p q c x y Q sf rx ry eg k => by
  unfold notNP at eg
  split at eg
  · cases eg
    exact ⟨ry, k _ F H (Gr.refl sf) (by rw [rx.isNon]; rfl)⟩
  · cases eg
theorem r2_cmp {f : Int → Int → Bool} {g : List Nat → List Nat → Bool} : R2Pv K (cmpP f g) (fun x y H Q => rI0 (fun i j => .bl (f i j)) x y H Q ∨ ∃ i j, x = .str i ∧ y = .str j ∧ Q (.bl (g i.cps.toList j.cps.toList)) H) := fun F H p q c x y Q sf rx ry eg k => by
  unfold cmpP at eg
  split at eg
  · cases eg
    exact .inl ⟨_, _, rx, ry, k _ F H (Gr.refl sf) rfl⟩
  · cases eg
    exact .inr ⟨_, _, rx, ry, k _ F H (Gr.refl sf) (by rw [mkS_list, mkS_list]; rfl)⟩
  · cases eg
end
/-- the rule of a comparison -/
structure CmpR (X : Cx) (op : CmpOp) (g : PV → PV → Option PV) : Prop where
  hm : ∀ b : Expr, behindInMarks op b = false
  ok : ∃ r, OpR X (compareOp op) r ∧ R2Pv X.K g r
section
variable {X : Cx} {a b : Expr} {oa ob : Ar} {pos : Pos} {op : CmpOp} {g : PV → PV → Option PV}
theorem c_lt : CmpR X .Lt ltP := ⟨fun b => nomark b (by decide) (by decide), _, opOr op_lt op_lt_str, r2_cmp⟩
theorem c_le : CmpR X .LtE leP := ⟨fun b => nomark b (by decide) (by decide), _, opOr op_le op_le_str, r2_cmp (g := fun a b => !decide (b < a))⟩
theorem c_gt : CmpR X .Gt gtP := ⟨fun b => nomark b (by decide) (by decide), _, opOr op_gt op_gt_str, r2_cmp (g := fun a b => decide (b < a))⟩
theorem c_ge : CmpR X .GtE geP := ⟨fun b => nomark b (by decide) (by decide), _, opOr op_ge op_ge_str, r2_cmp (g := fun a b => !decide (a < b))⟩
theorem c_isN : CmpR X .Is isNP := ⟨fun b => nomark b (by decide) (by decide), _, op_isN, r2_isN⟩
theorem c_notN : CmpR X .IsNot notNP := ⟨fun b => nomark b (by decide) (by decide), _, op_notN, r2_notN⟩
theorem c_eq (hu : X.A.units + 64 < cLine) : CmpR X .Eq eqP := ⟨fun b => nomark b (by decide) (by decide), _, op_eqD hu, r2_eq⟩
theorem c_ne (hu : X.A.units + 64 < cLine) : CmpR X .NotEq neP := ⟨fun b => nomark b (by decide) (by decide), _, op_neD hu, r2_ne⟩
theorem ev_cmp (c : CmpR X op g) (ha : PE X a (tAr X.K oa)) (hb : PE X b (tAr X.K ob)) : PE X (.Compare a [op] [b] pos) (tEv X.K (x2 g oa ob)) := by
  obtain ⟨r, h1, h2⟩ := c.ok
  exact ev_op2 (pe_cmpR h1 ha hb (c.hm b)) h2
end
end Pv
/-! Indexing, slices, displays, calls of built-ins, by pure values. -/
namespace Pv
open PySem PySem.Spec PyProof.Rows L2

/-! ### displays -/
@[simp] def dispT (vs : List PV) : Option PV := if vs.length ≤ sizeLine then some (.tup vs) else none
@[simp] def dispL (vs : List PV) : Option PV := if vs.length ≤ sizeLine then some (.lst vs) else none
theorem RepB.unb {K : PySem.W.Frag} {F H : Hp} {p : PV} {v : V} (h : RepB K F H p v) (n : ∀ xs, p ≠ .lst xs) : Rep K F p v := by
  cases p with
  | lst xs => exact absurd rfl (n xs)
  | _ => exact h
section
variable {X : Cx} {es : List Expr} {as : List Ar} {pos : Pos}
/-- the operands of a display are all frozen -/
def allEx : List Ar → Prop
  | [] => True
  | .ex _ :: r => allEx r
  | .bor _ :: _ => False
theorem exs_ok {K : PySem.W.Frag} {F0 H0 : Hp} {σ : L2.St} : ∀ (as : List Ar) {env env' : Env} {F H : Hp} {vs : List PV} {Q : List V → Hp → Prop}, allEx as → SR K F0 H0 env F σ H → xArgs as env = some (vs, env') →
    (∀ xs F' H', SR K F0 H0 env' F' σ H' → Same F F' → RepL K F' vs xs → Q xs H') → tArs K as σ H Q
  | [], _, _, F, H, _, _, _, S, e, k => by
    cases e
    exact k [] F H S (Same.refl F) rfl
  | .ex f :: r, env, env', F, H, vs, Q, ae, S, e, k => by
    unfold xArgs at e
    split at e
    · rename_i v e1 ef
      split at e
      · rename_i ws e2 er
        cases e
        refine ⟨F0, H0, env, F, v, e1, S, ef, fun x F' H' S' sf rx => ?_⟩
        refine exs_ok r ae S' er fun xs F2 H2 S2 sf2 rs => ?_
        exact k (x :: xs) F2 H2 S2 (sf.trans sf2) ⟨x, xs, rfl, rx.mono sf2, rs⟩
      · cases e
    · cases e
  | .bor i :: r, _, _, _, _, _, _, ae, _, _, _ => ae.elim
theorem ev_tup {x1} (ae : allEx as) (h : PA X es (tArs X.K as)) : PE X (.Tuple es x1 pos) (tEv X.K (xN dispT as)) := PE.imp (pe_tup h) fun σ H Q q => by
  obtain ⟨F0, H0, env, F, c, env', S, e, k⟩ := q
  obtain ⟨vs, ea, eg⟩ := xN_def e
  refine exs_ok as ae S ea fun xs F' H' S' sf rs => ?_
  unfold dispT at eg
  split at eg
  · rename_i hz
    cases eg
    refine ⟨by rw [← rs.length]; exact hz, fun l hl => ?_⟩
    have g := Gr.within S'.fh (o := .tup xs) hl rfl
    exact k _ _ _ (S'.gr g) (sf.trans g.ff) ⟨l, xs, rfl, .inl (.inl upd_same), rs.mono g.ff⟩
  · cases eg
theorem nw_lst (ae : allEx as) (h : PA X es (tArs X.K as)) : PE X (.List es pos) (tNw X.K (xN dispL as)) := PE.imp (pe_lst h) fun σ H Q q => by
  obtain ⟨F0, H0, env, F, c, env', S, e, k⟩ := q
  obtain ⟨vs, ea, eg⟩ := xN_def e
  refine exs_ok as ae S ea fun xs F' H' S' sf rs => ?_
  unfold dispL at eg
  split at eg
  · rename_i hz
    cases eg
    refine ⟨by rw [← rs.length]; exact hz, fun l hl => ?_⟩
    exact k l F' _ (S'.gr (Gr.beside S'.fh hl)) sf (S'.fh.free hl) (S'.h0.free hl) ⟨xs, upd_same, rs⟩ (noSlot_new S' hl)
  · cases eg
end

/-! ### items -/
@[simp] def ixP : PV → PV → Option PV
  | .lst xs, .int i => atI xs i
  | .tup xs, .int i => atI xs i
  | .str l, .int i => if l.length ≤ sizeLine then match atI l i with
    | some c => some (.str [c])
    | none => none
    else none
  | .scr ns, .int i => match atI ns i with
    | some n => some (.int n)
    | none => none
  | _, _ => none
theorem RepL.atI {K : PySem.W.Frag} {F : Hp} {xs : List PV} {vs : List V} {i : Int} {c : PV} (h : RepL K F xs vs) (e : L2.atI xs i = some c) : ∃ v, L2.atI vs i = some v ∧ Rep K F c v := by
  unfold L2.atI at e ⊢
  rw [← h.length]
  cases q : ixN xs.length i with
  | none => rw [q] at e; cases e
  | some j =>
    rw [q] at e
    exact h.get e
theorem atI_map {α β : Type} (f : α → β) (xs : List α) (i : Int) : L2.atI (xs.map f) i = (L2.atI xs i).map f := by
  unfold L2.atI
  rw [List.length_map]
  cases ixN xs.length i with
  | none => rfl
  | some j => simp
section
variable {K : PySem.W.Frag} {F H : Hp}
theorem r2_ix : R2Pv K ixP (rIx K) := fun F H p q c x y Q sf rx ry eg k => by
  unfold ixP at eg
  split at eg
  · obtain ⟨a, vs, rfl, h1, h2⟩ := rx
    obtain ⟨v, e1, r1⟩ := h2.atI eg
    exact .inl ⟨a, vs, _, v, rfl, ry, SqL.of h1, e1, k v F H (Gr.refl sf) r1⟩
  · obtain ⟨a, vs, rfl, h1, h2⟩ := rx
    obtain ⟨v, e1, r1⟩ := h2.atI eg
    exact .inr (.inl ⟨a, vs, _, v, rfl, ry, Same.sqT sf h1, e1, k v F H (Gr.refl sf) r1⟩)
  · split at eg
    · rename_i hz
      split at eg
      · rename_i ch ec
        cases eg
        refine .inr (.inr ⟨_, _, ch, rx, ry, by rw [mkS_len]; exact hz, by rw [mkS_list]; exact ec, k _ F H (Gr.refl sf) rfl⟩)
      · cases eg
    · cases eg
  · rename_i ns i
    split at eg
    · rename_i n en
      cases eg
      obtain ⟨a, rfl, h1⟩ := rx
      exact .inl ⟨a, ns.map V.int, _, .int n, rfl, ry, sf.seq h1, by rw [atI_map, en]; rfl, k _ F H (Gr.refl sf) rfl⟩
    · cases eg
  · cases eg
end
theorem ev_ix {X : Cx} {a b : Expr} {oa ob : Ar} {pos : Pos} (ha : PE X a (tAr X.K oa)) (hb : PE X b (tAr X.K ob)) (hs : PlainIx b) : PE X (.Subscript a b pos) (tEv X.K (x2 ixP oa ob)) := ev_op2 (pe_ix ix_seq ha hb hs) r2_ix

/-! ### slices -/
def cut {α : Type} (xs : List α) (lo hi : Option Int) : List α := (xs.drop (HT.sIx xs.length 0 lo)).take (HT.sIx xs.length xs.length hi - HT.sIx xs.length 0 lo)
def slP (p : PV) (lo hi : Option Int) : Option PV := match p with
  | .lst xs => some (.lst (cut xs lo hi))
  | .tup xs => some (.tup (cut xs lo hi))
  | .str l => if l.length ≤ sizeLine then some (.str (cut l lo hi)) else none
  | _ => none
theorem RepL.take {K : PySem.W.Frag} {F : Hp} {xs : List PV} {vs : List V} (n : Nat) (h : RepL K F xs vs) : RepL K F (xs.take n) (vs.take n) := by
  refine RepL.of (by simp [h.length]) fun i x v e1 e2 => ?_
  rw [List.getElem?_take] at e1 e2
  split at e1
  · rename_i hi
    rw [if_pos hi] at e2
    obtain ⟨w, q1, q2⟩ := h.get e1
    rw [e2] at q1
    cases q1
    exact q2
  · cases e1
theorem RepL.drop {K : PySem.W.Frag} {F : Hp} {xs : List PV} {vs : List V} (n : Nat) (h : RepL K F xs vs) : RepL K F (xs.drop n) (vs.drop n) := by
  refine RepL.of (by simp [h.length]) fun i x v e1 e2 => ?_
  rw [List.getElem?_drop] at e1 e2
  obtain ⟨w, q1, q2⟩ := h.get e1
  rw [e2] at q1
  cases q1
  exact q2
theorem RepL.cut {K : PySem.W.Frag} {F : Hp} {xs : List PV} {vs : List V} {lo hi : Option Int} (h : RepL K F xs vs) : RepL K F (cut xs lo hi) (cutV vs lo hi) := by
  unfold Pv.cut cutV
  rw [h.length]
  exact (h.drop _).take _
theorem cutS_eq (l : List Nat) (lo hi : Option Int) : cutS (mkS l) lo hi = mkS (cut l lo hi) := by
  unfold cutS
  rw [mkS_len]
  simp [mkS, cut]
/-- the parts of a slice: none, or an operand -/
def tPt (K : PySem.W.Frag) : Option Ar → TO
  | none => tNoPart
  | some a => tPart (tAr K a)
def rSl (K : PySem.W.Frag) : V → Option Int → Option Int → Hp → VK → Prop := fun x lo hi H Q => rSlL K x lo hi H Q ∨ rSlA K x lo hi H Q ∨ rSlS x lo hi H Q
theorem sl_any {X : Cx} : SlR X (rSl X.K) := sl_list.or (sl_tupA.or sl_str)
theorem rsl_ok {K : PySem.W.Frag} {F H : Hp} {p c : PV} {x : V} {lo hi : Option Int} {Q : VK} (sf : Same F H) (rx : RepB K F H p x) (eg : slP p lo hi = some c) (k : ∀ v F' H', Gr F H F' H' → Rep K F' c v → Q v H') : rSl K x lo hi H Q := by
  unfold slP at eg
  split at eg
  · cases eg
    obtain ⟨a, vs, rfl, h1, h2⟩ := rx
    refine .inl ⟨a, vs, rfl, SqL.of h1, fun l hl => ?_⟩
    have g := Gr.within sf (o := .lst (cutV vs lo hi)) hl rfl
    exact k _ _ _ g ⟨l, _, rfl, upd_same, h2.cut.mono g.ff⟩
  · cases eg
    obtain ⟨a, vs, rfl, h1, h2⟩ := rx
    refine .inr (.inl ⟨a, vs, rfl, Same.sqT sf h1, fun w => ?_, fun _ l hl => ?_⟩)
    · refine k _ F H (Gr.refl sf) ⟨a, vs, rfl, h1, ?_⟩
      have e : cut vs lo hi = vs := by unfold cut; rw [w.1, w.2]; simp
      have h3 := h2.cut (lo := lo) (hi := hi)
      rw [show cutV vs lo hi = vs from e] at h3
      exact h3
    · have g := Gr.within sf (o := .tup (cutV vs lo hi)) hl rfl
      exact k _ _ _ g ⟨l, _, rfl, .inl (.inl upd_same), h2.cut.mono g.ff⟩
  · split at eg
    · rename_i l hz
      cases eg
      exact .inr (.inr ⟨_, rx, by rw [mkS_len]; exact hz, k _ F H (Gr.refl sf) (by show V.str _ = V.str _; rw [cutS_eq])⟩)
    · cases eg
  · cases eg
@[simp] def slLo (p q : PV) : Option PV := match q with
  | .int i => slP p (some i) none
  | _ => none
@[simp] def slHi (p q : PV) : Option PV := match q with
  | .int i => slP p none (some i)
  | _ => none
@[simp] def slLH (vs : List PV) : Option PV := match vs with
  | [p, .int i, .int j] => slP p (some i) (some j)
  | _ => none
section
variable {X : Cx} {e a b : Expr} {oe oa ob : Ar} {pos p2 : Pos}
theorem ev_slLo (he : PE X e (tAr X.K oe)) (ha : PE X a (tAr X.K oa)) : PE X (.Subscript e (.Slice (some a) none none p2) pos) (tEv X.K (x2 slLo oe oa)) := PE.imp (pe_slice sl_any he (po_some ha) po_none) fun σ H Q q => by
  obtain ⟨F0, H0, env, F, c, env', S, e, k⟩ := q
  obtain ⟨v, w, ea, eg⟩ := x2_def e
  refine args_ok [oe, oa] (Q := on2 (fun x y H2 Q => ∃ i, y = .int i ∧ rSl X.K x (some i) none H2 Q) Q) S ea fun xs F' H' S' sf rs => ?_
  obtain ⟨x, t, rfl, rx, y, t2, rfl, ry, rfl⟩ := rs
  unfold slLo at eg
  split at eg
  · exact ⟨_, ry, rsl_ok S'.fh rx eg fun u F2 H2 gr ru => k u F2 H2 (S'.gr gr) (sf.trans gr.ff) ru⟩
  · cases eg
theorem ev_slHi (he : PE X e (tAr X.K oe)) (ha : PE X a (tAr X.K oa)) : PE X (.Subscript e (.Slice none (some a) none p2) pos) (tEv X.K (x2 slHi oe oa)) := PE.imp (pe_slice sl_any he po_none (po_some ha)) fun σ H Q q => by
  obtain ⟨F0, H0, env, F, c, env', S, e, k⟩ := q
  obtain ⟨v, w, ea, eg⟩ := x2_def e
  refine args_ok [oe, oa] (Q := on2 (fun x y H2 Q => ∃ i, y = .int i ∧ rSl X.K x none (some i) H2 Q) Q) S ea fun xs F' H' S' sf rs => ?_
  obtain ⟨x, t, rfl, rx, y, t2, rfl, ry, rfl⟩ := rs
  unfold slHi at eg
  split at eg
  · exact ⟨_, ry, rsl_ok S'.fh rx eg fun u F2 H2 gr ru => k u F2 H2 (S'.gr gr) (sf.trans gr.ff) ru⟩
  · cases eg
theorem ev_slLH {fa fb : SE} (he : PE X e (tAr X.K oe)) (ha : PE X a (tEv X.K fa)) (hb : PE X b (tEv X.K fb)) : PE X (.Subscript e (.Slice (some a) (some b) none p2) pos) (tEv X.K (xN slLH [oe, .ex fa, .ex fb])) := PE.imp (pe_slice sl_any he (po_some ha) (po_some hb)) fun σ H Q q => by
  obtain ⟨F0, H0, env, F, c, env', S, e, k⟩ := q
  obtain ⟨vs, ea, eg⟩ := xN_def e
  unfold slLH at eg
  split at eg
  · rename_i p i j
    have two : ∀ {env1 : Env} {F1 H1 : Hp} {x : V}, SR X.K F0 H0 env1 F1 σ H1 → xArgs [.ex fa, .ex fb] env1 = some ([.int i, .int j], env') → Same F F1 →
        (∀ F2 H2, SR X.K F0 H0 env' F2 σ H2 → Same F1 F2 → RepB X.K F2 H2 p x) →
        tPart (tEv X.K fa) σ H1 fun l H2 => tPart (tEv X.K fb) σ H2 fun u H3 => rSl X.K x l u H3 Q := by
      intro env1 F1 H1 x S1 e1 sf1 hx
      unfold xArgs at e1
      split at e1
      · rename_i va ea1 efa
        split at e1
        · rename_i ws e2 er
          cases e1
          refine ⟨F0, H0, env1, F1, .int i, ea1, S1, efa, fun y F2 H2 S2 sf2 ry => ⟨i, ry, ?_⟩⟩
          unfold xArgs at er
          split at er
          · rename_i vb eb1 efb
            cases er
            refine ⟨F0, H0, ea1, F2, .int j, _, S2, efb, fun z F3 H3 S3 sf3 rz => ⟨j, rz, ?_⟩⟩
            exact rsl_ok S3.fh (hx F3 H3 S3 (sf2.trans sf3)) eg fun u F4 H4 gr ru => k u F4 H4 (S3.gr gr) (((sf1.trans sf2).trans sf3).trans gr.ff) ru
          · cases er
        · cases e1
      · cases e1
    cases oe with
    | ex f =>
      unfold xArgs at ea
      split at ea
      · rename_i v e1 ef
        split at ea
        · rename_i ws e2 er
          cases ea
          refine ⟨F0, H0, env, F, p, e1, S, ef, fun x F1 H1 S1 sf1 rx => ?_⟩
          exact two S1 er sf1 fun F2 H2 S2 sf2 => RepB.of S2.fh (rx.mono sf2)
        · cases ea
      · cases ea
    | bor n =>
      unfold xArgs at ea
      split at ea
      · rename_i v0 e0
        split at ea
        · rename_i ws e2 er
          split at ea
          · rename_i v ev
            cases ea
            obtain ⟨x, hx, _⟩ := S.val e0
            refine ⟨x, hx, two S er (Same.refl F) fun F2 H2 S2 sf2 => ?_⟩
            obtain ⟨y, hy, ry⟩ := S2.val ev
            rw [hx] at hy
            cases hy
            exact ry
          · cases ea
        · cases ea
      · cases ea
  · cases eg
end

/-! ### the other way round: xs[::-1] -/
@[simp] def revP : PV → Option PV
  | .lst xs => some (.lst xs.reverse)
  | .tup xs => some (.tup xs.reverse)
  | .str l => if l.length ≤ sizeLine then some (.str l.reverse) else none
  | _ => none
end Pv
/-! xs[::-1] of lists, tuples, texts. -/
namespace Pv
open PySem PySem.Spec PyProof.Rows L2

section
variable {prog : Program} {w : World} {A : Around} {E : Value → Shared → Prop} {s : Shared}
theorem sliceApplied_rev {sl : Addr} {t : Tok} {n : Nat} {Q : Int × Int × Nat → Shared → Prop} (hs : s.heap.IsSliceOf sl .none .none (.int (-1) t))
    (h : Q ((n : Int) - 1, -1, n) s) : wpAny (model prog w) A (Builtin.Slice.sliceApplied (.ref sl) (pure (n : Int))) Q E s := by
  obtain ⟨os, hos, hcs, hds⟩ := id hs
  unfold Builtin.Slice.sliceApplied Builtin.Slice.sliceFields
  refine wpAny_bind (wpAny_bind (wpAny_field hos hds (x := .none) rfl (wpAny_bind (wpAny_field hos hds (x := .none) rfl (wpAny_bind (wpAny_field hos hds (x := .int (-1) t) rfl (wpAny_pure ?_)))))))
  refine wpAny_bind (slicePart_int ?_)
  show wpAny _ _ (if ((-1 : Int) == 0) = true then _ else _) _ _ s
  rw [if_neg (by decide)]
  refine wpAny_bind (slicePart_none (wpAny_bind (slicePart_none (wpAny_bind (wpAny_pure ?_)))))
  show wpAny _ _ (match Builtin.Slice.sliceAdjust none none (-1) (n : Int) with | (lo, hi) => pure (lo, (-1 : Int), Builtin.Slice.slicePlaces lo hi (-1))) _ _ s
  have e1 : Builtin.Slice.sliceAdjust none none (-1) (n : Int) = ((n : Int) - 1, -1) := rfl
  rw [e1]
  have e2 : Builtin.Slice.slicePlaces ((n : Int) - 1) (-1) (-1) = n := by
    unfold Builtin.Slice.slicePlaces
    have h0 : ¬ ((-1 : Int) > 0) := by decide
    rw [if_neg h0]
    split
    · have : -(-1 : Int) = 1 := by decide
      rw [this, Int.ediv_one]
      omega
    · omega
  show wpAny _ _ (pure ((n : Int) - 1, (-1 : Int), Builtin.Slice.slicePlaces ((n : Int) - 1) (-1) (-1))) _ _ s
  rw [e2]
  exact wpAny_pure h
theorem fm_range {α : Type} : ∀ l : List α, (List.range l.length).filterMap (fun i => l[i]?) = l
  | [] => rfl
  | x :: l => by
    rw [List.length_cons, List.range_succ_eq_map, List.filterMap_cons]
    simp only [List.getElem?_cons_zero, List.filterMap_map]
    have := fm_range l
    exact congrArg _ this
theorem fm_congr {α β : Type} {f g : α → Option β} : ∀ l : List α, (∀ x ∈ l, f x = g x) → l.filterMap f = l.filterMap g
  | [], _ => rfl
  | x :: l, h => by rw [List.filterMap_cons, List.filterMap_cons, h x (by simp), fm_congr l fun y hy => h y (by simp [hy])]
theorem pick_rev {α : Type} (xs : Array α) : ((List.range xs.size).filterMap fun (m : Nat) => xs[(((xs.size : Int) - 1) + (m : Int) * (-1)).toNat]?).toArray = xs.toList.reverse.toArray := by
  have e : ((List.range xs.size).filterMap fun (m : Nat) => xs[(((xs.size : Int) - 1) + (m : Int) * (-1)).toNat]?) = xs.toList.reverse := by
    have h := fm_range xs.toList.reverse
    have hl : xs.toList.reverse.length = xs.size := by simp
    rw [hl] at h
    rw [← h]
    refine fm_congr _ fun m hm => ?_
    have hm' := List.mem_range.mp hm
    rw [List.getElem?_reverse (by simpa using hm')]
    have : (((xs.size : Int) - 1) + (m : Int) * (-1)).toNat = xs.toList.length - 1 - m := by simp; omega
    rw [this]
    simp
  rw [e]
theorem getItem_tuple_rev {t sl : Addr} {items : Array Value} {tk : Tok} {Q : Value → Shared → Prop} (ht : IsTup s.heap t items) (hs : s.heap.IsSliceOf sl .none .none (.int (-1) tk))
    (h : Q (.ref s.heap.objs.size) { s with heap := s.heap.push { cls := .type "tuple", data := .seq items.toList.reverse.toArray } })
    (hsz : items.size ≤ sizeLine) : wpAny (model prog w) A (getItem (.ref t) (.ref sl)) Q E s := by
  have htake : sizeOk (.seq items.toList.reverse.toArray) := by
    show items.toList.reverse.toArray.size ≤ sizeLine
    simpa using hsz
  obtain ⟨os, hos, hcs, hds⟩ := id hs
  have hTs : s.TypeIs (.ref sl) "slice" := ⟨os, hos, hcs⟩
  unfold getItem
  try with_reducible refine wpAny_holding ?_
  first | refine wpAny_bind (wpAny_pure ?_) | skip
  refine wpAny_bind (wpAny_sequenceKey ht.typeIs (by decide) ?_)
  refine wpAny_bind (wpAny_callSpecial?_slot (name := Str.ofString "__getitem__") ht.typeIs PyProof.Rows.slot_tuple_getitem
    (wpAny_call_entry PyProof.Rows.slot_tuple_getitem ht.typeIs PyProof.Rows.entry_tuple_getitem ?_ (PyProof.Rows.args_tuple_getitem _ _)))
  show wpAny _ _ (Builtin.Tuple.tupleItemsOf (.ref t) >>= _) _ _ s
  refine wpAny_bind (tupleItemsOf_ ht ?_)
  refine wpAny_bind (wpAny_typeOf hTs ?_)
  rw [if_pos (by decide)]
  refine wpAny_bind (sliceApplied_rev hs ?_)
  have hno : ¬ ((((items.size : Int) - 1) == 0 && (-1 : Int) == 1 && items.size == items.size) = true) := by simp
  show wpAny _ _ (if (((items.size : Int) - 1) == 0 && (-1 : Int) == 1 && items.size == items.size) = true then _ else _) _ _ s
  rw [if_neg hno, pick_rev]
  first
    | exact wpAny_bind (m := Builtin.Tuple.tupleExact _) (wpAny_newObj_type (wpAny_pure ⟨_, rfl, wpAny_pure h⟩) htake)
    | exact wpAny_bind (m := Builtin.Tuple.tupleExact _) (wpAny_newObj_type (wpAny_bind (wpAny_pure (wpAny_pure ⟨_, rfl, wpAny_pure h⟩))) htake)
    | exact wpAny_bind (wpAny_bind (m := Builtin.Tuple.tupleExact _) (wpAny_newObj_type (wpAny_pure (wpAny_pure ⟨_, rfl, wpAny_pure h⟩)) htake))
    | exact wpAny_bind (wpAny_bind (m := Builtin.Tuple.tupleExact _) (wpAny_newObj_type (wpAny_pure ⟨_, rfl, wpAny_pure h⟩) htake))
theorem getItem_str_rev {x : Str} {t tk : Tok} {sl : Addr} {Q : Value → Shared → Prop} (hs : s.heap.IsSliceOf sl .none .none (.int (-1) tk))
    (hz : x.length ≤ sizeLine) (h : ∀ t' k, Q (.str ⟨x.cps.toList.reverse.toArray⟩ t') { s with toks := k }) : wpAny (model prog w) A (getItem (.str x t) (.ref sl)) Q E s := by
  refine wpAny_getItem_str_slice (l := none) (u := none) (st := some (-1, tk)) hs rfl ?_
  have e : (sliceMade x t none none (some (-1, tk))) = .str ⟨x.cps.toList.reverse.toArray⟩ := by
    unfold sliceMade
    have h0 : ¬ ((((some (-1, tk) : Option (Int × Tok)).map (·.1)).getD 1 == 1 && (slicePicked x none none (some (-1, tk))).length == x.length) = true) := by
      intro q
      have := (Bool.and_eq_true_iff.mp q).1
      simp at this
    rw [if_neg h0]
    have h1 : slicePicked x none none (some (-1, tk)) = sliceRange ((x.cps.size : Int) - 1) (-1) (-1) := rfl
    rw [h1, PySem.W.krv_sliceRange, PySem.W.krv_range, List.filterMap_reverse, PySem.W.krv_all]
  rw [e]
  refine ⟨?_, h _ _⟩
  show (x.cps.toList.reverse.toArray).size ≤ sizeLine
  have : x.cps.size ≤ sizeLine := hz
  simpa using this
end
section
variable {X : Cx} {e : Expr} {oe : Ar} {k : Nat} {p1 p2 p3 pos : Pos}
theorem Vals.rev : ∀ {xs : List V} {us : List Value}, Vals xs us → Vals xs.reverse us.reverse
  | _, _, .nil => .nil
  | _, _, .cons r t => by
    rw [List.reverse_cons, List.reverse_cons]
    exact Vals.append (Vals.rev t) (.cons r .nil)
theorem RepL.rev {K : PySem.W.Frag} {F : Hp} : ∀ {xs : List PV} {vs : List V}, RepL K F xs vs → RepL K F xs.reverse vs.reverse
  | [], _, h => by cases h; exact rfl
  | x :: xs, _, h => by
    obtain ⟨v, r, rfl, h1, h2⟩ := h
    rw [List.reverse_cons, List.reverse_cons]
    exact (RepL.rev h2).append ⟨v, [], rfl, h1, rfl⟩
def rRev (K : PySem.W.Frag) : V → Hp → VK → Prop := fun x H Q => (∃ a xs, x = .ref a ∧ SqL K H a xs ∧ ∀ p, H p = none → Q (.ref p) (upd H p (.lst xs.reverse))) ∨
  (∃ a xs, x = .ref a ∧ SqT K H a xs ∧ ∀ p, H p = none → Q (.ref p) (upd H p (.tup xs.reverse))) ∨ (∃ z, x = .str z ∧ z.length ≤ sizeLine ∧ Q (.str ⟨z.cps.toList.reverse.toArray⟩) H)
theorem pe_rev {te : TE} (he : PE X e te) : PE X (.Subscript e (.Slice none none (some (.UnaryOp .USub (.Constant (.int 1) k p1) p2)) p3) pos) (tUn (rRev X.K) te) := by
  refine ⟨fun pins s σ H Q I h => ?_⟩
  refine Subscript_ (thn (he.run pins s σ H _ I h) fun v s1 ⟨x, H1, I1, r1, q1⟩ => ?_)
  have hst : PO X (some (.UnaryOp .USub (.Constant (.int 1) k p1) p2)) (tPart (tUn (rU fun i => .int (-i)) (tC (.int 1)))) := po_some (pe_un un_neg pe_int)
  refine wpAny_Slice (thn (po_none.run pins s1 σ H1 (fun o H2 => o = none ∧ H2 = H1) I1 ⟨rfl, rfl⟩) fun vl s2 ⟨l, H2, I2, pl, el, e2⟩ => ?_)
  subst el e2
  refine thn (po_none.run pins s2 σ H2 (fun o H3 => o = none ∧ H3 = H2) I2 ⟨rfl, rfl⟩) fun vu s3 ⟨u, H3, I3, pu, eu, e3⟩ => ?_
  subst eu e3
  refine thn (hst.run pins s3 σ H3 (fun o H4 => o = some (-1) ∧ H4 = H3) I3 ⟨1, rfl, -1, rfl, rfl, rfl⟩) fun vs s4 ⟨o, H4, I4, ps, eo, e4⟩ => ?_
  subst eo e4
  have I5 : Inv X pins σ H4 { s4 with heap := s4.heap.push { cls := .type "slice", data := .fields #[vl, vu, vs] } } := I4.kept (t' := s4.toks) fun b ob q => Heap.get?_push_of_some _ q
  have hsl := Heap.IsSliceOf.new s4.heap vl vu vs
  rcases q1 with ⟨a, xs, rfl, hx, q⟩ | ⟨a, xs, rfl, hx, q⟩ | ⟨z, rfl, hz, q⟩
  · cases r1
    obtain ⟨its, r, ht, hz⟩ := I5.list hx
    have hlen := r.length
    show wpAny (model X.prog X.w) X.A (subscriptTail e (.Slice none none (some (.UnaryOp .USub (.Constant (.int 1) k p1) p2)) p3) (.ref a) (.ref s4.heap.objs.size)) (EP X pins σ Q) X.xe { s4 with heap := s4.heap.push { cls := .type "slice", data := .fields #[vl, vu, vs] } }
    refine tail_any (ops := [.ref a, .ref s4.heap.objs.size]) ht.isList.typeIs (PySem.slot_list_getitem.lookup) ?_ (by with_unfolding_all rfl)
    refine wpAny_getItem_list_slice ht.isList hsl pl pu ps (by decide) ?_ (by rw [List.size_toArray]; omega)
    rw [PySem.W.krv_pick]
    refine ⟨.ref _, _, I5.laid (t' := s4.toks) (o := .lst xs.reverse) (fun b ob q => Heap.get?_push_of_some _ q) (Nat.le_refl _) ?_, rfl, q _ (I5.hok.fresh (Nat.le_refl _))⟩
    exact ⟨by rw [List.length_reverse]; exact hz, _, 0, r.reverse, Heap.get?_push_size _ rfl⟩
  · cases r1
    cases pl
    cases pu
    obtain ⟨tk, rfl⟩ : ∃ tk, vs = .int (-1) tk := by cases ps; exact ⟨_, rfl⟩
    obtain ⟨its, r, ht, hz⟩ := I5.tuple hx
    have hlen := r.length
    show wpAny (model X.prog X.w) X.A (subscriptTail e (.Slice none none (some (.UnaryOp .USub (.Constant (.int 1) k p1) p2)) p3) (.ref a) (.ref s4.heap.objs.size)) (EP X pins σ Q) X.xe { s4 with heap := s4.heap.push { cls := .type "slice", data := .fields #[.none, .none, .int (-1) tk] } }
    refine tail_any (ops := [.ref a, .ref s4.heap.objs.size]) ht.typeIs (PyProof.Rows.slot_tuple_getitem.lookup) ?_ (by with_unfolding_all rfl)
    refine getItem_tuple_rev ht hsl ?_ (by rw [List.size_toArray]; omega)
    refine ⟨.ref _, _, I5.laid (t' := s4.toks) (o := .tup xs.reverse) (fun b ob q => Heap.get?_push_of_some _ q) (Nat.le_refl _) ?_, rfl, q _ (I5.hok.fresh (Nat.le_refl _))⟩
    exact ⟨by rw [List.length_reverse]; exact hz, its.reverse, Vals.rev r, ⟨_, Heap.get?_push_size _ rfl, rfl, _, rfl⟩⟩
  · obtain ⟨t, rfl⟩ := r1
    cases pl
    cases pu
    obtain ⟨tk, rfl⟩ : ∃ tk, vs = .int (-1) tk := by cases ps; exact ⟨_, rfl⟩
    show wpAny (model X.prog X.w) X.A (subscriptTail e (.Slice none none (some (.UnaryOp .USub (.Constant (.int 1) k p1) p2)) p3) (.str z t) (.ref s4.heap.objs.size)) (EP X pins σ Q) X.xe { s4 with heap := s4.heap.push { cls := .type "slice", data := .fields #[.none, .none, .int (-1) tk] } }
    refine tail_any (ops := [.str z t, .ref s4.heap.objs.size]) (typeIs_str _ z t) (F.slot_str_getitem.lookup) ?_ (by with_unfolding_all rfl)
    exact getItem_str_rev hsl hz fun t' k => ⟨.str _, H4, I5.tok _, ⟨_, rfl⟩, q⟩
theorem r1_rev {K : PySem.W.Frag} : R1Pv K revP (rRev K) := fun F H p c x Q sf rx eg k => by
  unfold revP at eg
  split at eg
  · cases eg
    obtain ⟨a, vs, rfl, h1, h2⟩ := rx
    refine .inl ⟨a, vs, rfl, SqL.of h1, fun l hl => ?_⟩
    have g := Gr.within sf (o := .lst vs.reverse) hl rfl
    exact k _ _ _ g ⟨l, _, rfl, upd_same, h2.rev.mono g.ff⟩
  · cases eg
    obtain ⟨a, vs, rfl, h1, h2⟩ := rx
    refine .inr (.inl ⟨a, vs, rfl, Same.sqT sf h1, fun l hl => ?_⟩)
    have g := Gr.within sf (o := .tup vs.reverse) hl rfl
    exact k _ _ _ g ⟨l, _, rfl, .inl (.inl upd_same), h2.rev.mono g.ff⟩
  · split at eg
    · rename_i hz
      cases eg
      exact .inr (.inr ⟨_, rx, by rw [mkS_len]; exact hz, k _ F H (Gr.refl sf) (by show V.str _ = V.str _; rw [mkS_list]; rfl)⟩)
    · cases eg
  · cases eg
theorem ev_rev (he : PE X e (tAr X.K oe)) : PE X (.Subscript e (.Slice none none (some (.UnaryOp .USub (.Constant (.int 1) k p1) p2)) p3) pos) (tEv X.K (x1 revP oe)) := ev_op1 (pe_rev he) r1_rev
end
end Pv
/-! Tests, and/or/not, conditional expressions, chains; calls of built-ins. -/
namespace Pv
open PySem PySem.Spec PyProof.Rows L2

/-! ### truth -/
@[simp] def truth : PV → Option Bool
  | .non => some false
  | .bl b => some b
  | .int i => some (i != 0)
  | .str l => if l.length ≤ sizeLine then some (!l.isEmpty) else none
  | .tup xs => some (!xs.isEmpty)
  | .lst xs => some (!xs.isEmpty)
  | .scr ns => some (!ns.isEmpty)
  | _ => none
theorem RepL.isEmpty {K : PySem.W.Frag} {F : Hp} {xs : List PV} {vs : List V} (h : RepL K F xs vs) : vs.isEmpty = xs.isEmpty := by
  cases xs with
  | nil => cases h; rfl
  | cons x xs => obtain ⟨v, r, rfl, _⟩ := h; rfl
theorem RepB.tru {K : PySem.W.Frag} {F H : Hp} {p : PV} {x : V} {b : Bool} (sf : Same F H) (h : RepB K F H p x) (e : truth p = some b) : TruV K x H b := by
  cases p with
  | non => cases (show x = .non from h); cases e; rfl
  | bl c => cases (show x = .bl c from h); cases e; rfl
  | int c => cases (show x = .int c from h); cases e; rfl
  | str l =>
    cases (show x = .str (mkS l) from h)
    simp only [truth] at e
    split at e
    · rename_i hz
      cases e
      refine ⟨by rw [mkS_len]; exact hz, ?_⟩
      rw [mkS_len]
      cases l with
      | nil => rfl
      | cons c l =>
        have h1 : ((c :: l).length : Int) ≠ 0 := by simp; omega
        show true = (((c :: l).length : Int) != 0)
        simpa using h1
    · cases e
  | tup xs =>
    obtain ⟨a, vs, rfl, h1, h2⟩ := h
    cases e
    exact .inr (.inl ⟨vs, Same.sqT sf h1, by rw [h2.isEmpty]⟩)
  | lst xs =>
    obtain ⟨a, vs, rfl, h1, h2⟩ := h
    cases e
    exact .inl ⟨vs, SqL.of h1, by rw [h2.isEmpty]⟩
  | dic _ _ => cases e
  | set _ => cases e
  | scr ns =>
    obtain ⟨a, rfl, h1⟩ := h
    cases e
    exact .inl ⟨_, sf.seq h1, by cases ns <;> rfl⟩
@[simp] def bVal (o : Ar) : SB := fun env => match xArgs [o] env with
  | some ([v], e) => match truth v with
    | some b => some (b, e)
    | none => none
  | _ => none
@[simp] def bCmp (g : PV → PV → Option PV) (a b : Ar) : SB := fun env => match x2 g a b env with
  | some (.bl r, e) => some (r, e)
  | _ => none
@[simp] def bAnd (f g : SB) : SB := fun env => match f env with
  | some (true, e) => g e
  | some (false, e) => some (false, e)
  | none => none
@[simp] def bOr (f g : SB) : SB := fun env => match f env with
  | some (true, e) => some (true, e)
  | some (false, e) => g e
  | none => none
@[simp] def bNot (f : SB) : SB := fun env => match f env with
  | some (b, e) => some (!b, e)
  | none => none
section
variable {X : Cx} {a b c : Expr} {oa ob : Ar} {pos : Pos} {op op' : CmpOp} {g g' : PV → PV → Option PV} {f1 f2 : SB} {rest : List Expr}
theorem tb_val (h : PE X a (tAr X.K oa)) (he : ∀ whole, isTrue a X.env whole = (do let v ← whole; standAt a.pos; holding [v] (truthy v))) : PT X a (tTv X.K (bVal oa)) := PT.imp (pt_truth h he) fun σ H Q q => by
  obtain ⟨F0, H0, env, F, v, env', S, e, k⟩ := q
  unfold bVal at e
  split at e
  · rename_i w e1 ea
    split at e
    · rename_i bb eb
      cases e
      refine args_ok [oa] (Q := fun xs H2 => match xs with | [x] => ∃ k, TruV X.K x H2 k ∧ Q k H2 | _ => False) S ea fun xs F' H' S' sf rs => ?_
      obtain ⟨x, t, rfl, rx, rfl⟩ := rs
      exact ⟨_, rx.tru S'.fh eb, k F' H' S' sf⟩
    · cases e
  · cases e
theorem tb_cmp (cr : CmpR X op g) (ha : PE X a (tAr X.K oa)) (hb : PE X b (tAr X.K ob)) : PT X (.Compare a [op] [b] pos) (tTv X.K (bCmp g oa ob)) := by
  obtain ⟨r, h1, h2⟩ := cr.ok
  refine PT.imp (pt_cmpR h1 ha hb (cr.hm b)) fun σ H Q q => ?_
  obtain ⟨F0, H0, env, F, v, env', S, e, k⟩ := q
  unfold bCmp at e
  split at e
  · rename_i w e1 ea
    cases e
    obtain ⟨v, w, ea, eg⟩ := x2_def ea
    refine args_ok [oa, ob] (Q := on2 r fun x H' => ∃ k, x = .bl k ∧ Q k H') S ea fun xs F' H' S' sf rs => ?_
    obtain ⟨x, t, rfl, rx, y, t2, rfl, ry, rfl⟩ := rs
    exact h2 F' H' _ _ _ x y _ S'.fh rx ry eg fun u F2 H2 gr ru => ⟨_, ru, k F2 H2 (S'.gr gr) (sf.trans gr.ff)⟩
  · cases e
theorem tw_and1 (ha : PT X a (tTv X.K f1)) : PW X (.BoolOp .And [a] pos) (tTv X.K f1) := pw_and1 ha
theorem tw_or1 (ha : PT X a (tTv X.K f1)) : PW X (.BoolOp .Or [a] pos) (tTv X.K f1) := pw_or1 ha
theorem tw_and (ha : PT X a (tTv X.K f1)) (hb : PW X (.BoolOp .And (b :: rest) pos) (tTv X.K f2)) : PW X (.BoolOp .And (a :: b :: rest) pos) (tTv X.K (bAnd f1 f2)) := PW.imp (pw_and ha hb) fun σ H Q q => by
  obtain ⟨F0, H0, env, F, v, env', S, e, k⟩ := q
  unfold bAnd at e
  split at e
  · rename_i e1 ea
    exact ⟨F0, H0, env, F, true, e1, S, ea, fun F' H' S' sf => by refine iteT ?_; exact ⟨F0, H0, e1, F', v, env', S', e, fun F2 H2 S2 s2 => k F2 H2 S2 (sf.trans s2)⟩⟩
  · rename_i e1 ea
    cases e
    exact ⟨F0, H0, env, F, false, _, S, ea, fun F' H' S' sf => by refine iteF ?_; exact k F' H' S' sf⟩
  · cases e
theorem tw_or (ha : PT X a (tTv X.K f1)) (hb : PW X (.BoolOp .Or (b :: rest) pos) (tTv X.K f2)) : PW X (.BoolOp .Or (a :: b :: rest) pos) (tTv X.K (bOr f1 f2)) := PW.imp (pw_or ha hb) fun σ H Q q => by
  obtain ⟨F0, H0, env, F, v, env', S, e, k⟩ := q
  unfold bOr at e
  split at e
  · rename_i e1 ea
    cases e
    exact ⟨F0, H0, env, F, true, _, S, ea, fun F' H' S' sf => by refine iteT ?_; exact k F' H' S' sf⟩
  · rename_i e1 ea
    exact ⟨F0, H0, env, F, false, e1, S, ea, fun F' H' S' sf => by refine iteF ?_; exact ⟨F0, H0, e1, F', v, env', S', e, fun F2 H2 S2 s2 => k F2 H2 S2 (sf.trans s2)⟩⟩
  · cases e
theorem tb_not (ha : PT X a (tTv X.K f1)) : PT X (.UnaryOp .Not a pos) (tTv X.K (bNot f1)) := PT.imp (pt_not ha) fun σ H Q q => by
  obtain ⟨F0, H0, env, F, v, env', S, e, k⟩ := q
  unfold bNot at e
  split at e
  · rename_i bb e1 ea
    cases e
    exact ⟨F0, H0, env, F, bb, _, S, ea, fun F' H' S' sf => k F' H' S' sf⟩
  · cases e
end

/-! ### as values -/
@[simp] def xIf (c : SB) (f g : SE) : SE := fun env => match c env with
  | some (true, e) => f e
  | some (false, e) => g e
  | none => none
@[simp] def xAnd (f g : SE) : SE := fun env => match f env with
  | some (.bl true, e) => g e
  | some (.bl false, e) => some (.bl false, e)
  | _ => none
@[simp] def xOr (f g : SE) : SE := fun env => match f env with
  | some (.bl true, e) => some (.bl true, e)
  | some (.bl false, e) => g e
  | _ => none
@[simp] def xNot (f : SE) : SE := fun env => match f env with
  | some (.bl b, e) => some (.bl (!b), e)
  | _ => none
@[simp] def xChain (g g' : PV → PV → Option PV) (fa fb fc : SE) : SE := fun env => match fa env with
  | some (v, e1) => match fb e1 with
    | some (w, e2) => match g v w with
      | some (.bl true) => match fc e2 with
        | some (u, e3) => match g' w u with
          | some (.bl r) => some (.bl r, e3)
          | _ => none
        | none => none
      | some (.bl false) => some (.bl false, e2)
      | _ => none
    | none => none
  | none => none
@[simp] def bChain (g g' : PV → PV → Option PV) (fa fb fc : SE) : SB := fun env => match xChain g g' fa fb fc env with
  | some (.bl r, e) => some (r, e)
  | _ => none
section
variable {X : Cx} {a b c : Expr} {pos : Pos} {op op' : CmpOp} {g g' : PV → PV → Option PV} {f f1 f2 f3 : SE} {cb : SB} {rest : List Expr}
theorem ev_if (hc : PT X c (tTv X.K cb)) (ha : PE X a (tEv X.K f1)) (hb : PE X b (tEv X.K f2)) : PE X (.IfExp c a b pos) (tEv X.K (xIf cb f1 f2)) := PE.imp (pe_ifExp hc ha hb) fun σ H Q q => by
  obtain ⟨F0, H0, env, F, v, env', S, e, k⟩ := q
  unfold xIf at e
  split at e
  · rename_i e1 ea
    exact ⟨F0, H0, env, F, true, e1, S, ea, fun F' H' S' sf => by refine iteT ?_; exact ⟨F0, H0, e1, F', v, env', S', e, fun x F2 H2 S2 s2 r => k x F2 H2 S2 (sf.trans s2) r⟩⟩
  · rename_i e1 ea
    exact ⟨F0, H0, env, F, false, e1, S, ea, fun F' H' S' sf => by refine iteF ?_; exact ⟨F0, H0, e1, F', v, env', S', e, fun x F2 H2 S2 s2 r => k x F2 H2 S2 (sf.trans s2) r⟩⟩
  · cases e
theorem ev_one {op : BoolOp} (h : PE X a (tEv X.K f)) : PE X (.BoolOp op [a] pos) (tEv X.K f) := pe_one h
theorem ev_and (ha : PE X a (tEv X.K f1)) (hb : PE X (.BoolOp .And (b :: rest) pos) (tEv X.K f2)) : PE X (.BoolOp .And (a :: b :: rest) pos) (tEv X.K (xAnd f1 f2)) := PE.imp (pe_and ha hb) fun σ H Q q => by
  obtain ⟨F0, H0, env, F, v, env', S, e, k⟩ := q
  unfold xAnd at e
  split at e
  · rename_i e1 ea
    exact ⟨F0, H0, env, F, .bl true, e1, S, ea, fun x F' H' S' sf r => ⟨true, r, by refine iteT ?_; exact ⟨F0, H0, e1, F', v, env', S', e, fun x F2 H2 S2 s2 r => k x F2 H2 S2 (sf.trans s2) r⟩⟩⟩
  · rename_i e1 ea
    cases e
    exact ⟨F0, H0, env, F, .bl false, _, S, ea, fun x F' H' S' sf r => ⟨false, r, by refine iteF ?_; exact k _ F' H' S' sf rfl⟩⟩
  · cases e
theorem ev_or (ha : PE X a (tEv X.K f1)) (hb : PE X (.BoolOp .Or (b :: rest) pos) (tEv X.K f2)) : PE X (.BoolOp .Or (a :: b :: rest) pos) (tEv X.K (xOr f1 f2)) := PE.imp (pe_or ha hb) fun σ H Q q => by
  obtain ⟨F0, H0, env, F, v, env', S, e, k⟩ := q
  unfold xOr at e
  split at e
  · rename_i e1 ea
    cases e
    exact ⟨F0, H0, env, F, .bl true, _, S, ea, fun x F' H' S' sf r => ⟨true, r, by refine iteT ?_; exact k _ F' H' S' sf rfl⟩⟩
  · rename_i e1 ea
    exact ⟨F0, H0, env, F, .bl false, e1, S, ea, fun x F' H' S' sf r => ⟨false, r, by refine iteF ?_; exact ⟨F0, H0, e1, F', v, env', S', e, fun x F2 H2 S2 s2 r => k x F2 H2 S2 (sf.trans s2) r⟩⟩⟩
  · cases e
theorem ev_not (ha : PE X a (tEv X.K f)) : PE X (.UnaryOp .Not a pos) (tEv X.K (xNot f)) := PE.imp (pe_not ha) fun σ H Q q => by
  obtain ⟨F0, H0, env, F, v, env', S, e, k⟩ := q
  unfold xNot at e
  split at e
  · rename_i bb e1 ea
    cases e
    exact ⟨F0, H0, env, F, .bl bb, _, S, ea, fun x F' H' S' sf r => ⟨bb, r, k _ F' H' S' sf rfl⟩⟩
  · cases e
/-- the reading of a chain -/
theorem chain_ok {r r' : R2} (h1 : R2Pv X.K g r) (h2 : R2Pv X.K g' r') {F0 H0 F H : Hp} {env env' : Env} {v : PV} {σ : L2.St} {Q : VK} (S : SR X.K F0 H0 env F σ H) (e : xChain g g' f1 f2 f3 env = some (v, env'))
    (k : ∀ x F' H', SR X.K F0 H0 env' F' σ H' → Same F F' → Rep X.K F' v x → Q x H') : tChain r r' (tEv X.K f1) (tEv X.K f2) (tEv X.K f3) σ H Q := by
  unfold xChain at e
  split at e
  · rename_i va e1 ea
    refine ⟨F0, H0, env, F, va, e1, S, ea, fun x F1 H1 S1 sf1 rx => ?_⟩
    split at e
    · rename_i vb e2 eb
      refine ⟨F0, H0, e1, F1, vb, e2, S1, eb, fun y F2 H2 S2 sf2 ry => ?_⟩
      have rx2 := RepB.of S2.fh (rx.mono sf2)
      have ry2 := RepB.of S2.fh ry
      split at e
      · rename_i eg
        refine h1 F2 H2 _ _ _ x y _ S2.fh rx2 ry2 eg fun u F3 H3 gr ru => ⟨true, ru, ?_⟩
        refine iteT ?_
        split at e
        · rename_i vc e3 ec
          refine ⟨F0, H0, e2, F3, vc, e3, S2.gr gr, ec, fun z F4 H4 S4 sf4 rz => ?_⟩
          split at e
          · rename_i rr eg2
            cases e
            exact h2 F4 H4 _ _ _ y z _ S4.fh (RepB.of S4.fh ((ry.mono gr.ff).mono sf4)) (RepB.of S4.fh rz) eg2 fun u F5 H5 gr5 ru5 => k u F5 H5 (S4.gr gr5) ((((sf1.trans sf2).trans gr.ff).trans sf4).trans gr5.ff) ru5
          · cases e
        · cases e
      · rename_i eg
        cases e
        refine h1 F2 H2 _ _ _ x y _ S2.fh rx2 ry2 eg fun u F3 H3 gr ru => ⟨false, ru, ?_⟩
        refine iteF ?_
        exact k _ F3 H3 (S2.gr gr) ((sf1.trans sf2).trans gr.ff) rfl
      · cases e
    · cases e
  · cases e
theorem ev_chain (c1 : CmpR X op g) (c2 : CmpR X op' g') (ha : PE X a (tEv X.K f1)) (hb : PE X b (tEv X.K f2)) (hc : PE X c (tEv X.K f3)) (hm : lastMarks [op, op'] [b, c] = false) :
    PE X (.Compare a [op, op'] [b, c] pos) (tEv X.K (xChain g g' f1 f2 f3)) := by
  obtain ⟨r, a1, a2⟩ := c1.ok
  obtain ⟨r', b1, b2⟩ := c2.ok
  refine PE.imp (pe_chain a1 b1 ha hb hc hm) fun σ H Q q => ?_
  obtain ⟨F0, H0, env, F, v, env', S, e, k⟩ := q
  exact chain_ok a2 b2 S e k
theorem tb_chain (c1 : CmpR X op g) (c2 : CmpR X op' g') (ha : PE X a (tEv X.K f1)) (hb : PE X b (tEv X.K f2)) (hc : PE X c (tEv X.K f3)) (hm : lastMarks [op, op'] [b, c] = false) :
    PT X (.Compare a [op, op'] [b, c] pos) (tTv X.K (bChain g g' f1 f2 f3)) := by
  obtain ⟨r, a1, a2⟩ := c1.ok
  obtain ⟨r', b1, b2⟩ := c2.ok
  refine PT.imp (pt_chain a1 b1 ha hb hc hm) fun σ H Q q => ?_
  obtain ⟨F0, H0, env, F, v, env', S, e, k⟩ := q
  unfold bChain at e
  split at e
  · rename_i rr e1 ea
    cases e
    exact chain_ok (Q := fun x H' => ∃ k, x = .bl k ∧ Q k H') a2 b2 S ea fun x F' H' S' sf rx => ⟨_, rx, k F' H' S' sf⟩
  · cases e
end

/-! ### calls of built-ins -/
@[simp] def lenP : List PV → Option PV
  | [.lst xs] => some (.int xs.length)
  | [.tup xs] => some (.int xs.length)
  | [.str l] => if l.length ≤ sizeLine then some (.int l.length) else none
  | [.scr ns] => some (.int ns.length)
  | _ => none
@[simp] def intP : List PV → Option PV
  | [.int i] => some (.int i)
  | _ => none
@[simp] def absP : List PV → Option PV
  | [.int i] => some (.int i.natAbs)
  | _ => none
@[simp] def max2P : List PV → Option PV
  | [.int i, .int j] => some (.int (max i j))
  | _ => none
@[simp] def min2P : List PV → Option PV
  | [.int i, .int j] => some (.int (min i j))
  | _ => none
def boolsO : List PV → Option (List Bool)
  | [] => some []
  | .bl b :: r => match boolsO r with
    | some bs => some (b :: bs)
    | none => none
  | _ :: _ => none
def intsO : List PV → Option (List Int)
  | [] => some []
  | .int b :: r => match intsO r with
    | some bs => some (b :: bs)
    | none => none
  | _ :: _ => none
@[simp] def allP : List PV → Option PV
  | [.lst xs] => match boolsO xs with
    | some bs => some (.bl (bs.all id))
    | none => none
  | _ => none
@[simp] def anyP : List PV → Option PV
  | [.lst xs] => match boolsO xs with
    | some bs => some (.bl (bs.any id))
    | none => none
  | _ => none
@[simp] def sumP : List PV → Option PV
  | [.lst xs] => match intsO xs with
    | some bs => some (.int bs.sum)
    | none => none
  | _ => none
@[simp] def tupP : List PV → Option PV
  | [.lst xs] => some (.tup xs)
  | [.tup xs] => some (.tup xs)
  | _ => none
@[simp] def lstP : List PV → Option PV
  | [.lst xs] => some (.lst xs)
  | [.tup xs] => some (.lst xs)
  | _ => none
theorem bools_map {xs : List PV} {bs : List Bool} (h : boolsO xs = some bs) : xs = bs.map PV.bl := by
  induction xs generalizing bs with
  | nil => cases h; rfl
  | cons x xs ih =>
    unfold boolsO at h
    split at h
    · rename_i e; cases e
    · rename_i b r e
      cases e
      split at h
      · rename_i cs ec
        cases h
        rw [List.map_cons, ih ec]
      · cases h
    · cases h
theorem ints_map {xs : List PV} {bs : List Int} (h : intsO xs = some bs) : xs = bs.map PV.int := by
  induction xs generalizing bs with
  | nil => cases h; rfl
  | cons x xs ih =>
    unfold intsO at h
    split at h
    · rename_i e; cases e
    · rename_i b r e
      cases e
      split at h
      · rename_i cs ec
        cases h
        rw [List.map_cons, ih ec]
      · cases h
    · cases h
@[simp] theorem bools_of (bs : List Bool) : boolsO (bs.map PV.bl) = some bs := by
  induction bs with
  | nil => rfl
  | cons b bs ih => simp [boolsO, ih]
@[simp] theorem ints_of (bs : List Int) : intsO (bs.map PV.int) = some bs := by
  induction bs with
  | nil => rfl
  | cons b bs ih => simp [intsO, ih]
theorem RepL.bls {K : PySem.W.Frag} {F : Hp} : ∀ {bs : List Bool} {vs : List V}, RepL K F (bs.map PV.bl) vs → vs = bs.map V.bl
  | [], _, h => by cases h; rfl
  | b :: bs, _, h => by
    obtain ⟨v, r, rfl, h1, h2⟩ := h
    cases (show v = .bl b from h1)
    rw [RepL.bls h2]; rfl
theorem RepL.ints {K : PySem.W.Frag} {F : Hp} : ∀ {bs : List Int} {vs : List V}, RepL K F (bs.map PV.int) vs → vs = bs.map V.int
  | [], _, h => by cases h; rfl
  | b :: bs, _, h => by
    obtain ⟨v, r, rfl, h1, h2⟩ := h
    cases (show v = .int b from h1)
    rw [RepL.ints h2]; rfl
section
variable {K : PySem.W.Frag}
theorem rn_len : RNPv K lenP (fun xs H Q => ∃ x n, xs = [x] ∧ LenV K x H n ∧ Q (.int n) H) := fun F H ps c xs Q sf rs eg k => by
  unfold lenP at eg
  split at eg
  · cases eg
    obtain ⟨x, t, rfl, ⟨a, vs, rfl, h1, h2⟩, rfl⟩ := rs
    exact ⟨_, _, rfl, .inl ⟨vs, SqL.of h1, rfl⟩, k _ F H (Gr.refl sf) (by rw [← h2.length]; rfl)⟩
  · cases eg
    obtain ⟨x, t, rfl, ⟨a, vs, rfl, h1, h2⟩, rfl⟩ := rs
    exact ⟨_, _, rfl, .inr ⟨vs, Same.sqT sf h1, rfl⟩, k _ F H (Gr.refl sf) (by rw [← h2.length]; rfl)⟩
  · split at eg
    · rename_i hz
      cases eg
      obtain ⟨x, t, rfl, rx, rfl⟩ := rs
      cases (show x = .str (mkS _) from rx)
      exact ⟨_, _, rfl, ⟨by rw [mkS_len]; exact hz, rfl⟩, k _ F H (Gr.refl sf) (by rw [mkS_len]; rfl)⟩
    · cases eg
  · cases eg
    obtain ⟨x, t, rfl, ⟨a, rfl, h1⟩, rfl⟩ := rs
    exact ⟨_, _, rfl, .inl ⟨_, sf.seq h1, rfl⟩, k _ F H (Gr.refl sf) (by rw [List.length_map]; rfl)⟩
  · cases eg
theorem rn_int : RNPv K intP (fun xs H Q => (∃ i, xs = [.int i] ∧ Q (.int i) H) ∨ ∃ k, xs = [.bl k] ∧ Q (.int (if k then 1 else 0)) H) := fun F H ps c xs Q sf rs eg k => by
  unfold intP at eg
  split at eg
  · cases eg
    obtain ⟨x, t, rfl, rx, rfl⟩ := rs
    cases (show x = .int _ from rx)
    exact .inl ⟨_, rfl, k _ F H (Gr.refl sf) rfl⟩
  · cases eg
theorem rn_abs : RNPv K absP (fun xs H Q => ∃ i, xs = [.int i] ∧ Q (.int (if i < 0 then -i else i)) H) := fun F H ps c xs Q sf rs eg k => by
  unfold absP at eg
  split at eg
  · cases eg
    obtain ⟨x, t, rfl, rx, rfl⟩ := rs
    cases (show x = .int _ from rx)
    refine ⟨_, rfl, k _ F H (Gr.refl sf) ?_⟩
    show V.int _ = V.int _
    congr 1
    split <;> omega
  · cases eg
theorem rn_max2 : RNPv K max2P (fun xs H Q => ∃ i j, xs = [.int i, .int j] ∧ Q (.int (if j > i then j else i)) H) := fun F H ps c xs Q sf rs eg k => by
  unfold max2P at eg
  split at eg
  · cases eg
    obtain ⟨x, t, rfl, rx, y, t2, rfl, ry, rfl⟩ := rs
    cases (show x = .int _ from rx)
    cases (show y = .int _ from ry)
    refine ⟨_, _, rfl, k _ F H (Gr.refl sf) ?_⟩
    show V.int _ = V.int _
    congr 1
    split <;> omega
  · cases eg
theorem rn_min2 : RNPv K min2P (fun xs H Q => ∃ i j, xs = [.int i, .int j] ∧ Q (.int (if j < i then j else i)) H) := fun F H ps c xs Q sf rs eg k => by
  unfold min2P at eg
  split at eg
  · cases eg
    obtain ⟨x, t, rfl, rx, y, t2, rfl, ry, rfl⟩ := rs
    cases (show x = .int _ from rx)
    cases (show y = .int _ from ry)
    refine ⟨_, _, rfl, k _ F H (Gr.refl sf) ?_⟩
    show V.int _ = V.int _
    congr 1
    split <;> omega
  · cases eg
theorem rn_all : RNPv K allP (rAll K) := fun F H ps c xs Q sf rs eg k => by
  unfold allP at eg
  split at eg
  · split at eg
    · rename_i bs eb
      cases eg
      obtain ⟨x, t, rfl, ⟨a, vs, rfl, h1, h2⟩, rfl⟩ := rs
      rw [bools_map eb] at h2
      exact ⟨a, bs, rfl, by rw [← h2.bls]; exact SqL.of h1, k _ F H (Gr.refl sf) rfl⟩
    · cases eg
  · cases eg
theorem rn_any : RNPv K anyP (rAny K) := fun F H ps c xs Q sf rs eg k => by
  unfold anyP at eg
  split at eg
  · split at eg
    · rename_i bs eb
      cases eg
      obtain ⟨x, t, rfl, ⟨a, vs, rfl, h1, h2⟩, rfl⟩ := rs
      rw [bools_map eb] at h2
      exact ⟨a, bs, rfl, by rw [← h2.bls]; exact SqL.of h1, k _ F H (Gr.refl sf) rfl⟩
    · cases eg
  · cases eg
theorem rn_sum : RNPv K sumP (rSum K) := fun F H ps c xs Q sf rs eg k => by
  unfold sumP at eg
  split at eg
  · split at eg
    · rename_i bs eb
      cases eg
      obtain ⟨x, t, rfl, ⟨a, vs, rfl, h1, h2⟩, rfl⟩ := rs
      rw [ints_map eb] at h2
      exact ⟨a, bs, rfl, by rw [← h2.ints]; exact SqL.of h1, k _ F H (Gr.refl sf) rfl⟩
    · cases eg
  · cases eg
theorem rn_tup : RNPv K tupP (fun xs H Q => ∃ p ys, xs = [.ref p] ∧ ((SqL K H p ys ∧ ∀ l, H l = none → Q (.ref l) (upd H l (.tup ys))) ∨ (SqT K H p ys ∧ Q (.ref p) H))) := fun F H ps c xs Q sf rs eg k => by
  unfold tupP at eg
  split at eg
  · cases eg
    obtain ⟨x, t, rfl, ⟨a, vs, rfl, h1, h2⟩, rfl⟩ := rs
    refine ⟨a, vs, rfl, .inl ⟨SqL.of h1, fun l hl => ?_⟩⟩
    have g := Gr.within sf (o := .tup vs) hl rfl
    exact k _ _ _ g ⟨l, vs, rfl, .inl (.inl upd_same), h2.mono g.ff⟩
  · cases eg
    obtain ⟨x, t, rfl, ⟨a, vs, rfl, h1, h2⟩, rfl⟩ := rs
    exact ⟨a, vs, rfl, .inr ⟨Same.sqT sf h1, k _ F H (Gr.refl sf) ⟨a, vs, rfl, h1, h2⟩⟩⟩
  · cases eg
theorem rn_lst : RNNw K lstP (fun xs H Q => ∃ p ys, xs = [.ref p] ∧ (SqL K H p ys ∨ SqT K H p ys) ∧ ∀ l, H l = none → Q (.ref l) (upd H l (.lst ys))) := fun F H ps c xs Q sf rs eg k => by
  unfold lstP at eg
  split at eg
  · cases eg
    obtain ⟨x, t, rfl, ⟨a, vs, rfl, h1, h2⟩, rfl⟩ := rs
    exact ⟨a, vs, rfl, .inl (SqL.of h1), fun l hl => k l F _ (Gr.beside sf hl) hl (sf.free hl) ⟨vs, upd_same, h2⟩⟩
  · cases eg
    obtain ⟨x, t, rfl, ⟨a, vs, rfl, h1, h2⟩, rfl⟩ := rs
    exact ⟨a, vs, rfl, .inr (Same.sqT sf h1), fun l hl => k l F _ (Gr.beside sf hl) hl (sf.free hl) ⟨vs, upd_same, h2⟩⟩
  · cases eg
end
/-- a built-in by its name -/
structure BltR (X : Cx) (x : Str) (g : List PV → Option PV) : Prop where
  hn : x ≠ "__name__"
  hdb : (x == ("__debug__" : Str)) = false
  ok : ∃ (v : Value) (r : List V → Hp → VK → Prop), bootBuiltins x = some v ∧ ((∃ id, v = .builtin id) ∨ ∃ T, v = .type T) ∧ CallR X v r ∧ RNPv X.K g r
structure BltN (X : Cx) (x : Str) (g : List PV → Option PV) : Prop where
  hn : x ≠ "__name__"
  hdb : (x == ("__debug__" : Str)) = false
  ok : ∃ (v : Value) (r : List V → Hp → VK → Prop), bootBuiltins x = some v ∧ ((∃ id, v = .builtin id) ∨ ∃ T, v = .type T) ∧ CallR X v r ∧ RNNw X.K g r
section
variable {X : Cx} {x : Str} {g : List PV → Option PV} {e : Expr} {es : List Expr} {a : Ar} {as : List Ar} {p pos : Pos}
theorem ev_blt (b : BltR X x g) (hg : Gl X x) (hm : X.mg x = none) (ha : PA X (e :: es) (tArs X.K (a :: as)))
    (he : starEach (e :: es) X.env = (false, eval e X.env) :: starEach es X.env) (hpl : (backTo pos (starEach es X.env)).any (·.1) = false) : PE X (.Call (.Name x p) (e :: es) [] pos) (tEv X.K (xN g (a :: as))) := by
  obtain ⟨v, r, h1, h2, h3, h4⟩ := b.ok
  rcases h2 with ⟨id, rfl⟩ | ⟨T, rfl⟩
  · exact ev_opN (pe_callB h3 hg hm h1 ha b.hn b.hdb he hpl) h4
  · exact ev_opN (pe_callTy h3 hg hm h1 ha b.hn b.hdb he hpl) h4
theorem nw_blt (b : BltN X x g) (hg : Gl X x) (hm : X.mg x = none) (ha : PA X (e :: es) (tArs X.K (a :: as)))
    (he : starEach (e :: es) X.env = (false, eval e X.env) :: starEach es X.env) (hpl : (backTo pos (starEach es X.env)).any (·.1) = false) : PE X (.Call (.Name x p) (e :: es) [] pos) (tNw X.K (xN g (a :: as))) := by
  obtain ⟨v, r, h1, h2, h3, h4⟩ := b.ok
  rcases h2 with ⟨id, rfl⟩ | ⟨T, rfl⟩
  · exact nw_opN (pe_callB h3 hg hm h1 ha b.hn b.hdb he hpl) h4
  · exact nw_opN (pe_callTy h3 hg hm h1 ha b.hn b.hdb he hpl) h4
theorem b_len : BltR X "len" lenP := ⟨by decide, by decide, _, _, PySem.boot_len, .inl ⟨_, rfl⟩, call_len, rn_len⟩
theorem b_int : BltR X "int" intP := ⟨by decide, by decide, _, _, boot_int, .inr ⟨_, rfl⟩, call_int1, rn_int⟩
theorem b_abs : BltR X "abs" absP := ⟨by decide, by decide, _, _, boot_abs, .inl ⟨_, rfl⟩, call_abs, rn_abs⟩
theorem b_max2 (hc : X.calm = true) : BltR X "max" max2P := ⟨by decide, by decide, _, _, by decide +kernel, .inl ⟨_, rfl⟩, call_max2 hc, rn_max2⟩
theorem b_min2 (hc : X.calm = true) : BltR X "min" min2P := ⟨by decide, by decide, _, _, by decide +kernel, .inl ⟨_, rfl⟩, call_min2 hc, rn_min2⟩
theorem b_all (hc : X.calm = true) : BltR X "all" allP := ⟨by decide, by decide, _, _, by decide +kernel, .inl ⟨_, rfl⟩, cr_all hc, rn_all⟩
theorem b_any (hc : X.calm = true) : BltR X "any" anyP := ⟨by decide, by decide, _, _, by decide +kernel, .inl ⟨_, rfl⟩, cr_any hc, rn_any⟩
theorem b_sum (hc : X.calm = true) : BltR X "sum" sumP := ⟨by decide, by decide, _, _, by decide +kernel, .inl ⟨_, rfl⟩, cr_sum hc, rn_sum⟩
theorem b_tup : BltR X "tuple" tupP := ⟨by decide, by decide, _, _, boot_tuple, .inr ⟨_, rfl⟩, call_tuple_of, rn_tup⟩
theorem b_lst : BltN X "list" lstP := ⟨by decide, by decide, _, _, boot_list, .inr ⟨_, rfl⟩, call_list_of, rn_lst⟩
end

/-! ### list(range(..)), isinstance -/
def rgP (a b : Int) : List PV := (List.range (b - a).toNat).map fun (i : Nat) => PV.int (a + i)
@[simp] def xLRg (f : SE) : SE := fun env => match f env with
  | some (.int n, e) => if 0 ≤ n ∧ n ≤ 16777216 then some (.lst (rgP 0 n), e) else none
  | _ => none
theorem repL_rg {K : PySem.W.Frag} {F : Hp} (a b : Int) : RepL K F (rgP a b) (rgV a b) := by
  refine RepL.of (by simp [rgP, rgV]) fun i x v e1 e2 => ?_
  unfold rgP at e1
  unfold rgV at e2
  rw [List.getElem?_map] at e1 e2
  cases q : (List.range (b - a).toNat)[i]? with
  | none => rw [q] at e1; cases e1
  | some j =>
    rw [q] at e1 e2
    cases e1
    cases e2
    rfl
section
variable {X : Cx} {a : Expr} {f : SE} {oa : Ar} {p p' pos pos' : Pos}
theorem nw_lrg (hc : X.calm = true) (hg : Gl X "list") (hm : X.mg "list" = none) (hg' : Gl X "range") (hm' : X.mg "range" = none) (ha : PE X a (tEv X.K f)) (na : starEach [a] X.env = (false, eval a X.env) :: starEach [] X.env)
    (nb : starEach [.Call (.Name "range" p') [a] [] pos'] X.env = (false, eval (.Call (.Name "range" p') [a] [] pos') X.env) :: starEach [] X.env) :
    PE X (.Call (.Name "list" p) [.Call (.Name "range" p') [a] [] pos'] [] pos) (tNw X.K (xLRg f)) := PE.imp (pe_listRg hc hg hm (prg_1 hg' hm' ha na) nb) fun σ H Q q => by
  obtain ⟨F0, H0, env, F, c, env', S, e, k⟩ := q
  unfold xLRg at e
  split at e
  · rename_i n e1 ef
    split at e
    · rename_i hn
      cases e
      refine ⟨F0, H0, env, F, _, _, S, ef, fun x F' H' S' sf r => ⟨n, r, ?_⟩⟩
      refine ⟨RgOk.of_le (by omega) (by omega) (by omega) hn.1, fun l hl => ?_⟩
      exact k l F' _ (S'.gr (Gr.beside S'.fh hl)) sf (S'.fh.free hl) (S'.h0.free hl) ⟨_, upd_same, repL_rg 0 n⟩ (noSlot_new S' hl)
    · cases e
  · cases e
end
end Pv
/-! Statements by pure values. -/
namespace Pv
open PySem PySem.Spec PyProof.Rows L2

inductive Fl where
  | nx (e : Env) | bk (e : Env) | ct (e : Env) | rt (v : PV)
abbrev SS := Env → Option Fl
def FlOk (K : PySem.W.Frag) (F0 H0 F : Hp) (D : Ends) : Fl → Prop
  | .nx e => ∀ σ' F' H', SR K F0 H0 e F' σ' H' → Same F F' → D.nx σ' H'
  | .bk e => ∀ σ' F' H', SR K F0 H0 e F' σ' H' → Same F F' → D.bk σ' H'
  | .ct e => ∀ σ' F' H', SR K F0 H0 e F' σ' H' → Same F F' → D.ct σ' H'
  | .rt v => ∀ x F' H', HR F0 H0 F' H' → Same F F' → Rep K F' v x → D.rt x H'
def tSv (K : PySem.W.Frag) (f : SS) : TS := fun D σ H => ∃ F0 H0 env F fl, SR K F0 H0 env F σ H ∧ f env = some fl ∧ FlOk K F0 H0 F D fl
theorem FlOk.mono {K : PySem.W.Frag} {F0 H0 F F' : Hp} {D : Ends} {fl : Fl} (sf : Same F F') (h : FlOk K F0 H0 F D fl) : FlOk K F0 H0 F' D fl := by
  cases fl with
  | nx e => exact fun σ' F2 H2 S s2 => h σ' F2 H2 S (sf.trans s2)
  | bk e => exact fun σ' F2 H2 S s2 => h σ' F2 H2 S (sf.trans s2)
  | ct e => exact fun σ' F2 H2 S s2 => h σ' F2 H2 S (sf.trans s2)
  | rt v => exact fun x F2 H2 S s2 r => h x F2 H2 S (sf.trans s2) r
section
variable {X : Cx}
theorem PS.imp {st : Stmt} {t t' : TS} (h : PS X st t) (i : ∀ D σ H, t' D σ H → t D σ H) : PS X st t' := ⟨fun pins s σ H D I q => h.run pins s σ H D I (i D σ H q)⟩
theorem PSs.imp {st : List Stmt} {t t' : TS} (h : PSs X st t) (i : ∀ D σ H, t' D σ H → t D σ H) : PSs X st t' := ⟨fun pins s σ H D I q => h.run pins s σ H D I (i D σ H q)⟩
end

section
variable {K : PySem.W.Frag} {F0 H0 F H : Hp} {env : Env} {σ : L2.St}
theorem set_len {α : Type} {l : List α} {i : Nat} {x : α} : (l.set i x).length = l.length := List.length_set
/-- a slot is forgotten -/
theorem SR.kill1 (S : SR K F0 H0 env F σ H) (i : Nat) : SR K F0 H0 (env.set i .none) F σ H where
  toHR := S.toHR
  len := by rw [set_len]; exact S.len
  fr := fun j v e => by
    rcases getElem?_set_of e with ⟨_, e1, _⟩ | ⟨_, e1⟩
    · cases e1
    · exact S.fr j v e1
  ow := fun j v e => by
    rcases getElem?_set_of e with ⟨_, e1, _⟩ | ⟨_, e1⟩
    · cases e1
    · exact S.ow j v e1
  dj := fun j k v w a ej ek => by
    rcases getElem?_set_of ej with ⟨_, e1, _⟩ | ⟨_, e1⟩
    · cases e1
    · rcases getElem?_set_of ek with ⟨_, e2, _⟩ | ⟨_, e2⟩
      · cases e2
      · exact S.dj j k v w a e1 e2
@[simp] def killE : List Nat → Env → Env
  | [], e => e
  | i :: r, e => killE r (e.set i .none)
theorem SR.kill : ∀ (ds : List Nat) {env : Env}, SR K F0 H0 env F σ H → SR K F0 H0 (killE ds env) F σ H
  | [], _, S => S
  | i :: r, _, S => SR.kill r (S.kill1 i)
/-- a slot takes a frozen value -/
theorem SR.setFr (S : SR K F0 H0 env F σ H) (i : Nat) {v : PV} {x : V} (r : Rep K F v x) : SR K F0 H0 (env.set i (.fr v)) F (σ.set i (some x)) H where
  toHR := S.toHR
  len := by rw [set_len, set_len]; exact S.len
  fr := fun j w e => by
    rcases getElem?_set_of e with ⟨hij, e1, hl⟩ | ⟨hij, e1⟩
    · subst hij
      cases e1
      exact ⟨x, by rw [List.getElem?_set_self (by rw [S.len]; exact hl)], r⟩
    · obtain ⟨y, q1, q2⟩ := S.fr j w e1
      exact ⟨y, by rw [List.getElem?_set_ne hij]; exact q1, q2⟩
  ow := fun j w e => by
    rcases getElem?_set_of e with ⟨hij, e1, hl⟩ | ⟨hij, e1⟩
    · cases e1
    · obtain ⟨a, q1, q2⟩ := S.ow j w e1
      exact ⟨a, by rw [List.getElem?_set_ne hij]; exact q1, q2⟩
  dj := fun j k v w a ej ek hj hk => by
    rcases getElem?_set_of ej with ⟨_, e1, _⟩ | ⟨h1, e1⟩
    · cases e1
    · rcases getElem?_set_of ek with ⟨_, e2, _⟩ | ⟨h2, e2⟩
      · cases e2
      · rw [List.getElem?_set_ne h1] at hj
        rw [List.getElem?_set_ne h2] at hk
        exact S.dj j k v w a e1 e2 hj hk
/-- a slot takes a new object -/
theorem SR.setOw (S : SR K F0 H0 env F σ H) (i : Nat) {v : PV} {p : Addr} (n : F p = none) (n0 : H0 p = none) (r : OwnRep K F H v p) (ns : NoSlot env σ p) :
    SR K F0 H0 (env.set i (.ow v)) F (σ.set i (some (.ref p))) H where
  toHR := S.toHR
  len := by rw [set_len, set_len]; exact S.len
  fr := fun j w e => by
    rcases getElem?_set_of e with ⟨hij, e1, hl⟩ | ⟨hij, e1⟩
    · cases e1
    · obtain ⟨y, q1, q2⟩ := S.fr j w e1
      exact ⟨y, by rw [List.getElem?_set_ne hij]; exact q1, q2⟩
  ow := fun j w e => by
    rcases getElem?_set_of e with ⟨hij, e1, hl⟩ | ⟨hij, e1⟩
    · subst hij
      cases e1
      exact ⟨p, by rw [List.getElem?_set_self (by rw [S.len]; exact hl)], n, n0, r⟩
    · obtain ⟨a, q1, q2⟩ := S.ow j w e1
      exact ⟨a, by rw [List.getElem?_set_ne hij]; exact q1, q2⟩
  dj := fun j k v' w a ej ek hj hk => by
    rcases getElem?_set_of ej with ⟨h1, e1, hl⟩ | ⟨h1, e1⟩
    · rcases getElem?_set_of ek with ⟨h2, e2, _⟩ | ⟨h2, e2⟩
      · rw [← h1, ← h2]
      · subst h1
        rw [List.getElem?_set_self (by rw [S.len]; exact hl)] at hj
        cases hj
        rw [List.getElem?_set_ne h2] at hk
        exact absurd hk (ns k w e2)
    · rcases getElem?_set_of ek with ⟨h2, e2, hl⟩ | ⟨h2, e2⟩
      · subst h2
        rw [List.getElem?_set_self (by rw [S.len]; exact hl)] at hk
        cases hk
        rw [List.getElem?_set_ne h1] at hj
        exact absurd hj (ns j v' e1)
      · rw [List.getElem?_set_ne h1] at hj
        rw [List.getElem?_set_ne h2] at hk
        exact S.dj j k v' w a e1 e2 hj hk
/-- an owned object is changed -/
theorem SR.mut (S : SR K F0 H0 env F σ H) {i : Nat} {v v' : PV} {p : Addr} {o : HO} (e : env[i]? = some (.ow v)) (hp : σ[i]? = some (some (.ref p))) (to : isTbl o = false) (r : OwnRep K F (upd H p o) v' p) :
    SR K F0 H0 (env.set i (.ow v')) F σ (upd H p o) := by
  obtain ⟨a, h1, h2, h3, h4⟩ := S.ow i v e
  rw [hp] at h1
  cases h1
  refine ⟨⟨S.f0, ⟨fun b u hb t => ?_, fun b ps hb => ?_⟩, fun b u hb => ?_, S.nt, S.fnew⟩, by rw [set_len]; exact S.len, fun j w ej => ?_, fun j w ej => ?_, fun j k v1 w a ej ek hj hk => ?_⟩
  · have hbp : b ≠ p := fun z => by rw [z, h3] at hb; cases hb
    rw [upd_ne hbp]
    exact S.h0.at_ b u hb t
  · have hbp : b ≠ p := fun z => by rw [z, h3] at hb; cases hb
    rw [upd_ne hbp]
    exact S.h0.tb b ps hb
  · have hbp : b ≠ p := fun z => by rw [z, h2] at hb; cases hb
    rw [upd_ne hbp]
    exact S.fh b u hb
  · rcases getElem?_set_of ej with ⟨_, e1, _⟩ | ⟨_, e1⟩
    · cases e1
    · exact S.fr j w e1
  · rcases getElem?_set_of ej with ⟨hij, e1, _⟩ | ⟨hij, e1⟩
    · subst hij
      cases e1
      exact ⟨p, hp, h2, h3, r⟩
    · obtain ⟨b, q1, q2, q3, q4⟩ := S.ow j w e1
      have hbp : b ≠ p := fun z => hij (S.dj i j v w p e e1 hp (by rw [← z]; exact q1))
      exact ⟨b, q1, q2, q3, q4.mono (Same.refl F) fun u hu => by rw [upd_ne hbp]; exact hu⟩
  · have old : ∀ (j : Nat) (w : PV), (env.set i (.ow v'))[j]? = some (.ow w) → ∃ w', env[j]? = some (.ow w') := fun j w ej => by
      rcases getElem?_set_of ej with ⟨hij, e1, _⟩ | ⟨hij, e1⟩
      · subst hij; exact ⟨v, e⟩
      · exact ⟨w, e1⟩
    obtain ⟨w1, z1⟩ := old j v1 ej
    obtain ⟨w2, z2⟩ := old k w ek
    exact S.dj j k w1 w2 a z1 z2 hj hk
end

/-! ### small statements -/
@[simp] def sNil : SS := fun env => some (.nx env)
@[simp] def sSeq (f g : SS) : SS := fun env => match f env with
  | some (.nx e) => g e
  | r => r
@[simp] def Fl.kill (ds : List Nat) : Fl → Fl
  | .nx e => .nx (killE ds e)
  | .bk e => .bk (killE ds e)
  | .ct e => .ct (killE ds e)
  | .rt v => .rt v
@[simp] def sKill (ds : List Nat) (f : SS) : SS := fun env => match f env with
  | some fl => some (fl.kill ds)
  | none => none
@[simp] def sSet (i : Nat) (f : SE) : SS := fun env => match f env with
  | some (v, e) => some (.nx (e.set i (.fr v)))
  | none => none
@[simp] def sNew (i : Nat) (f : SE) : SS := fun env => match f env with
  | some (v, e) => some (.nx (e.set i (.ow v)))
  | none => none
@[simp] def sExpr (f : SE) : SS := fun env => match f env with
  | some (_, e) => some (.nx e)
  | none => none
@[simp] def sRet (f : SE) : SS := fun env => match f env with
  | some (v, _) => some (.rt v)
  | none => none
@[simp] def sRetN : SS := fun _ => some (.rt .non)
@[simp] def sBrk : SS := fun env => some (.bk env)
@[simp] def sCnt : SS := fun env => some (.ct env)
@[simp] def sIf (c : SB) (f g : SS) : SS := fun env => match c env with
  | some (true, e) => f e
  | some (false, e) => g e
  | none => none
section
variable {X : Cx} {st : Stmt} {rest a b : List Stmt} {e c : Expr} {f g : SS} {fe : SE} {cb : SB} {pos : Pos}
theorem ss_nil : PSs X [] (tSv X.K sNil) := PSs.imp pss_nil fun D σ H q => by
  obtain ⟨F0, H0, env, F, fl, S, e, k⟩ := q
  cases e
  exact k σ F H S (Same.refl F)
theorem ss_cons (h1 : PS X st (tSv X.K f)) (h2 : PSs X rest (tSv X.K g)) : PSs X (st :: rest) (tSv X.K (sSeq f g)) := PSs.imp (pss_cons h1 h2) fun D σ H q => by
  obtain ⟨F0, H0, env, F, fl, S, e, k⟩ := q
  unfold sSeq at e
  split at e
  · rename_i e1 ef
    exact ⟨F0, H0, env, F, .nx e1, S, ef, fun σ' F' H' S' sf => ⟨F0, H0, e1, F', fl, S', e, k.mono sf⟩⟩
  · rename_i hn
    refine ⟨F0, H0, env, F, fl, S, e, ?_⟩
    cases fl with
    | nx e1 => exact absurd e (hn e1)
    | bk e1 => exact k
    | ct e1 => exact k
    | rt v => exact k
theorem ss_one (h1 : PS X st (tSv X.K f)) : PSs X [st] (tSv X.K f) := pss_one h1
theorem st_kill (ds : List Nat) (h : PS X st (tSv X.K f)) : PS X st (tSv X.K (sKill ds f)) := PS.imp h fun D σ H q => by
  obtain ⟨F0, H0, env, F, fl, S, e, k⟩ := q
  unfold sKill at e
  split at e
  · rename_i f1 ef
    cases e
    refine ⟨F0, H0, env, F, f1, S, ef, ?_⟩
    cases f1 with
    | nx e1 => exact fun σ' F' H' S' sf => k σ' F' H' (S'.kill ds) sf
    | bk e1 => exact fun σ' F' H' S' sf => k σ' F' H' (S'.kill ds) sf
    | ct e1 => exact fun σ' F' H' S' sf => k σ' F' H' (S'.kill ds) sf
    | rt v => exact k
  · cases e
theorem st_set {i : Nat} (h : PS X st (tAsg (tEv X.K fe) (gName i))) : PS X st (tSv X.K (sSet i fe)) := PS.imp h fun D σ H q => by
  obtain ⟨F0, H0, env, F, fl, S, e, k⟩ := q
  unfold sSet at e
  split at e
  · rename_i v e1 ef
    cases e
    exact ⟨F0, H0, env, F, v, e1, S, ef, fun x F' H' S' sf r => k _ F' H' (S'.setFr i r) sf⟩
  · cases e
theorem st_new {i : Nat} (h : PS X st (tAsg (tNw X.K fe) (gName i))) : PS X st (tSv X.K (sNew i fe)) := PS.imp h fun D σ H q => by
  obtain ⟨F0, H0, env, F, fl, S, e, k⟩ := q
  unfold sNew at e
  split at e
  · rename_i v e1 ef
    cases e
    exact ⟨F0, H0, env, F, v, e1, S, ef, fun p F' H' S' sf n n0 r ns => k _ F' H' (S'.setOw i n n0 r ns) sf⟩
  · cases e
theorem tAsg_imp {te te' : TE} {g : TG} (h : ∀ σ H Q, te' σ H Q → te σ H Q) : ∀ D σ H, tAsg te' g D σ H → tAsg te g D σ H := fun D σ H q => h σ H _ q
theorem st_asg {i : Nat} {x : Str} {pos' : Pos} (hN : X.N.Nodup) (hi : X.N[i]? = some x) (hx : Loc X.env.scope x) (he : PE X e (tEv X.K fe)) (hs : swapsWith e (some (.Name x pos')) pos.line X.env = pure false)
    (hf : X.fn x = true ∨ X.env.scope.names.lookup x = some .local) : PS X (.Assign [.Name x pos'] e pos) (tSv X.K (sSet i fe)) := st_set (ps_set hN hi hx he hs hf)
theorem st_asgN {i : Nat} {x : Str} {pos' : Pos} (hN : X.N.Nodup) (hi : X.N[i]? = some x) (hx : Loc X.env.scope x) (he : PE X e (tNw X.K fe)) (hs : swapsWith e (some (.Name x pos')) pos.line X.env = pure false)
    (hf : X.fn x = true ∨ X.env.scope.names.lookup x = some .local) : PS X (.Assign [.Name x pos'] e pos) (tSv X.K (sNew i fe)) := st_new (ps_set hN hi hx he hs hf)
theorem st_expr (he : PE X e (tEv X.K fe)) (hs : swapsWith e none pos.line X.env = pure false) : PS X (.Expr e pos) (tSv X.K (sExpr fe)) := PS.imp (ps_expr he hs) fun D σ H q => by
  obtain ⟨F0, H0, env, F, fl, S, e, k⟩ := q
  unfold sExpr at e
  split at e
  · rename_i v e1 ef
    cases e
    exact ⟨F0, H0, env, F, v, e1, S, ef, fun x F' H' S' sf r => k _ F' H' S' sf⟩
  · cases e
theorem st_ret (he : PE X e (tEv X.K fe)) : PS X (.Return (some e) pos) (tSv X.K (sRet fe)) := PS.imp (ps_ret he) fun D σ H q => by
  obtain ⟨F0, H0, env, F, fl, S, e, k⟩ := q
  unfold sRet at e
  split at e
  · rename_i v e1 ef
    cases e
    exact ⟨F0, H0, env, F, v, e1, S, ef, fun x F' H' S' sf r => k _ F' H' S'.toHR sf r⟩
  · cases e
theorem st_retN : PS X (.Return none pos) (tSv X.K sRetN) := PS.imp ps_retN fun D σ H q => by
  obtain ⟨F0, H0, env, F, fl, S, e, k⟩ := q
  cases e
  exact k _ F H S.toHR (Same.refl F) rfl
theorem st_pass : PS X (.Pass pos) (tSv X.K sNil) := PS.imp ps_pass fun D σ H q => by
  obtain ⟨F0, H0, env, F, fl, S, e, k⟩ := q
  cases e
  exact k σ F H S (Same.refl F)
theorem st_brk : PS X (.Break pos) (tSv X.K sBrk) := PS.imp ps_break fun D σ H q => by
  obtain ⟨F0, H0, env, F, fl, S, e, k⟩ := q
  cases e
  exact k σ F H S (Same.refl F)
theorem st_cnt : PS X (.Continue pos) (tSv X.K sCnt) := PS.imp ps_continue fun D σ H q => by
  obtain ⟨F0, H0, env, F, fl, S, e, k⟩ := q
  cases e
  exact k σ F H S (Same.refl F)
theorem st_if (hc : PT X c (tTv X.K cb)) (ha : PSs X a (tSv X.K f)) (hb : PSs X b (tSv X.K g)) : PS X (.If c a b pos) (tSv X.K (sIf cb f g)) := PS.imp (ps_if hc ha hb) fun D σ H q => by
  obtain ⟨F0, H0, env, F, fl, S, e, k⟩ := q
  unfold sIf at e
  split at e
  · rename_i e1 ec
    exact ⟨F0, H0, env, F, true, e1, S, ec, fun F' H' S' sf => by refine iteT ?_; exact ⟨F0, H0, e1, F', fl, S', e, k.mono sf⟩⟩
  · rename_i e1 ec
    exact ⟨F0, H0, env, F, false, e1, S, ec, fun F' H' S' sf => by refine iteF ?_; exact ⟨F0, H0, e1, F', fl, S', e, k.mono sf⟩⟩
  · cases e
end

/-! ### loops -/
def forL (g : PV → Env → Option Env) (b : SS) : List PV → Env → Option Fl
  | [], env => some (.nx env)
  | x :: xs, env => match g x env with
    | some e1 => match b e1 with
      | some (.nx e2) => forL g b xs e2
      | some (.ct e2) => forL g b xs e2
      | some (.bk e2) => some (.nx e2)
      | some (.rt v) => some (.rt v)
      | none => none
    | none => none
/-- what is walked, by pure values -/
abbrev SI := Env → Option (List PV × Env)
/-- at turn i a value stands for the i-th of xs, in a heap that goes on -/
def YPv (K : PySem.W.Frag) (xs : List PV) : Nat → Hp → V → Hp → Prop := fun i H x H' => ∀ F, Same F H → ∃ F', Gr F H F' H' ∧ ∃ p, xs[i]? = some p ∧ Rep K F' p x
def tIv (K : PySem.W.Frag) (f : SI) : TI := fun σ H R => ∃ F0 H0 env F xs env', SR K F0 H0 env F σ H ∧ f env = some (xs, env') ∧
  ∀ J F' H', SR K F0 H0 env' F' σ H' → Same F F' → Walk J xs.length (fun H2 => ∃ F2, Same F' F2 ∧ Same F2 H2) (fun i H2 x H3 => ∀ F2, Same F' F2 → Same F2 H2 → ∃ F3, Gr F2 H2 F3 H3 ∧ ∃ p, xs[i]? = some p ∧ Rep K F3 p x) → R J H'
theorem PI.imp {X : Cx} {tg it : Expr} {t t' : TI} (h : PI X tg it t) (i : ∀ σ H R, t' σ H R → t σ H R) : PI X tg it t' := ⟨fun pins s σ H R I q => h.run pins s σ H R I (i σ H R q)⟩
/-- the target of a loop -/
abbrev SG := PV → Env → Option Env
def tGv (K : PySem.W.Frag) (g : SG) : TG := fun v σ H Q => ∃ F0 H0 env F p env', SR K F0 H0 env F σ H ∧ Rep K F p v ∧ g p env = some env' ∧ ∀ σ' , SR K F0 H0 env' F σ' H → Q σ' H
theorem PG.imp {X : Cx} {tg : Expr} {t t' : TG} (h : PG X tg t) (i : ∀ v σ H R, t' v σ H R → t v σ H R) : PG X tg t' := ⟨fun pins s σ H v u Q I r q => h.run pins s σ H v u Q I r (i v σ H Q q)⟩
@[simp] def gSet (i : Nat) : SG := fun p env => some (env.set i (.fr p))
theorem tg_name {X : Cx} {i : Nat} {x : Str} {pos : Pos} (hN : X.N.Nodup) (hi : X.N[i]? = some x) (hx : Loc X.env.scope x) (hf : X.fn x = true ∨ X.env.scope.names.lookup x = some .local) :
    PG X (.Name x pos) (tGv X.K (gSet i)) := PG.imp (pg_name hN hi hx hf) fun v σ H R q => by
  obtain ⟨F0, H0, env, F, p, env', S, r, e, k⟩ := q
  cases e
  exact k _ (S.setFr i r)
/-- a, b, .. = -/
@[simp] def setAll : List Nat → List PV → Env → Option Env
  | [], [], env => some env
  | i :: is, p :: ps, env => setAll is ps (env.set i (.fr p))
  | _, _, _ => none
@[simp] def gUnp (is : List Nat) : SG := fun p env => match p with
  | .tup xs => setAll is xs env
  | _ => none
def gNames : List Nat → TGs
  | [] => gNil
  | i :: is => gCons (gName i) (gNames is)
theorem names_ok {K : PySem.W.Frag} {F0 H0 : Hp} {H : Hp} {Q : L2.St → Hp → Prop} : ∀ (is : List Nat) {ps : List PV} {vs : List V} {env env' : Env} {F : Hp} {σ : L2.St}, SR K F0 H0 env F σ H → RepL K F ps vs → setAll is ps env = some env' →
    (∀ σ', SR K F0 H0 env' F σ' H → Q σ' H) → gNames is vs σ H Q
  | [], ps, vs, env, env', F, σ, S, r, e, k => by
    cases ps with
    | nil => cases r; cases e; exact ⟨rfl, k σ S⟩
    | cons p ps => cases e
  | i :: is, ps, vs, env, env', F, σ, S, r, e, k => by
    cases ps with
    | nil => cases e
    | cons p ps =>
      obtain ⟨v, t, rfl, r1, r2⟩ := r
      exact ⟨v, t, rfl, names_ok is (S.setFr i r1) r2 e k⟩
theorem setAll_len : ∀ (is : List Nat) {ps : List PV} {env env' : Env}, setAll is ps env = some env' → ps.length = is.length
  | [], [], _, _, _ => rfl
  | [], _ :: _, _, _, e => by cases e
  | _ :: _, [], _, _, e => by cases e
  | i :: is, p :: ps, env, env', e => by rw [List.length_cons, List.length_cons, setAll_len is (env := env.set i (.fr p)) e]
theorem tg_unp {X : Cx} {es : List Expr} {k : Nat} {is : List Nat} {pos : Pos} (hc : X.calm = true) (h : PGs X es (gNames is)) (hn : (assignEach es X.env).length = is.length) (hst : (assignEach es X.env).findIdx? (·.1) = none) :
    PG X (.Tuple es k pos) (tGv X.K (gUnp is)) := PG.imp (pg_tup (n := is.length) hc h hn hst) fun v σ H R q => by
  obtain ⟨F0, H0, env, F, p, env', S, r, e, k⟩ := q
  unfold gUnp at e
  split at e
  · obtain ⟨a, vs, rfl, h1, h2⟩ := r
    exact ⟨a, vs, rfl, Same.sqT S.fh h1, by rw [← h2.length]; exact setAll_len is e, names_ok is S h2 e k⟩
  · cases e
@[simp] def sUnp (is : List Nat) (f : SE) : SS := fun env => match f env with
  | some (v, e) => match gUnp is v e with
    | some e' => some (.nx e')
    | none => none
  | none => none
@[simp] def sFor (ds : List Nat) (fi : SI) (g : SG) (b : SS) : SS := fun env => match fi env with
  | some (xs, e) => forL g (sKill ds b) xs (killE ds e)
  | none => none
def whileF : Nat → SB → SS → Env → Option Fl
  | 0, _, _, _ => none
  | n + 1, c, b, env => match c env with
    | some (true, e1) => match b e1 with
      | some (.nx e2) => whileF n c b e2
      | some (.ct e2) => whileF n c b e2
      | some (.bk e2) => some (.nx e2)
      | some (.rt v) => some (.rt v)
      | none => none
    | some (false, e1) => some (.nx e1)
    | none => none
@[simp] def sWhile (n : Nat) (ds : List Nat) (c : SB) (b : SS) : SS := fun env => whileF n c (sKill ds b) (killE ds env)
section
variable {X : Cx} {tg it c : Expr} {body : List Stmt} {fi : SI} {g : SG} {b : SS} {cb : SB} {pos : Pos} {ds : List Nat}
theorem sts_kill (ds : List Nat) {sts : List Stmt} {f : SS} (h : PSs X sts (tSv X.K f)) : PSs X sts (tSv X.K (sKill ds f)) := PSs.imp h fun D σ H q => by
  obtain ⟨F0, H0, env, F, fl, S, e, k⟩ := q
  unfold sKill at e
  split at e
  · rename_i f1 ef
    cases e
    refine ⟨F0, H0, env, F, f1, S, ef, ?_⟩
    cases f1 with
    | nx e1 => exact fun σ' F' H' S' sf => k σ' F' H' (S'.kill ds) sf
    | bk e1 => exact fun σ' F' H' S' sf => k σ' F' H' (S'.kill ds) sf
    | ct e1 => exact fun σ' F' H' S' sf => k σ' F' H' (S'.kill ds) sf
    | rt v => exact k
  · cases e
theorem st_for (hp : PassesOwn (model X.prog X.w) X.A X.env X.xe) (hc : X.calm = true) (hi : PI X tg it (tIv X.K fi)) (hg : PG X tg (tGv X.K g)) (hb : PSs X body (tSv X.K b))
    (hs : ∀ x, foldedSetIterable it X.env x = pure x) : PS X (.For tg it body [] pos) (tSv X.K (sFor ds fi g b)) := PS.imp (ps_for hp hc hi hg (sts_kill ds hb) hs) fun D σ H q => by
  obtain ⟨F0, H0, env, F, fl, S, e, k⟩ := q
  unfold sFor at e
  split at e
  · rename_i xs e1 ei
    refine ⟨F0, H0, env, F, xs, e1, S, ei, fun J F1 H1 S1 sf1 w => ?_⟩
    refine for_it w (fun i σ H => ∃ F2 env2, SR X.K F0 H0 env2 F2 σ H ∧ Same F1 F2 ∧ forL g (sKill ds b) (xs.drop i) env2 = some fl) ⟨F1, _, S1.kill ds, Same.refl F1, e⟩ (fun i σ H _ ⟨F2, env2, S2, s2, _⟩ => ⟨F2, s2, S2.fh⟩) ?_ ?_
    · rintro i x σ2 H2 H3 hi ⟨F2, env2, S2, s2, e2⟩ y
      obtain ⟨F3, gr, p, hp, rp⟩ := y F2 s2 S2.fh
      have hd : xs.drop i = p :: xs.drop (i + 1) := by
        rw [List.drop_eq_getElem_cons hi]
        rw [List.getElem?_eq_getElem hi] at hp
        cases hp; rfl
      rw [hd] at e2
      unfold forL at e2
      split at e2
      · rename_i e3 eg
        refine ⟨F0, H0, env2, F3, p, e3, S2.gr gr, rp, eg, fun σ4 S4 => ?_⟩
        split at e2
        · rename_i e4 eb
          exact ⟨F0, H0, e3, F3, .nx e4, S4, eb, fun σ5 F5 H5 S5 s5 => ⟨F5, e4, S5, (s2.trans gr.ff).trans s5, e2⟩⟩
        · rename_i e4 eb
          exact ⟨F0, H0, e3, F3, .ct e4, S4, eb, fun σ5 F5 H5 S5 s5 => ⟨F5, e4, S5, (s2.trans gr.ff).trans s5, e2⟩⟩
        · rename_i e4 eb
          cases e2
          exact ⟨F0, H0, e3, F3, .bk e4, S4, eb, fun σ5 F5 H5 S5 s5 => k σ5 F5 H5 S5 (((sf1.trans s2).trans gr.ff).trans s5)⟩
        · rename_i v eb
          cases e2
          exact ⟨F0, H0, e3, F3, .rt v, S4, eb, fun x5 F5 H5 S5 s5 r5 => k x5 F5 H5 S5 (((sf1.trans s2).trans gr.ff).trans s5) r5⟩
        · cases e2
      · cases e2
    · rintro σ2 H2 ⟨F2, env2, S2, s2, e2⟩
      rw [List.drop_length] at e2
      cases e2
      exact k σ2 F2 H2 S2 (sf1.trans s2)
  · cases e
theorem st_while (n : Nat) (hp : PassesOwn (model X.prog X.w) X.A X.env X.xe) (hc : PT X c (tTv X.K cb)) (hb : PSs X body (tSv X.K b)) : PS X (.While c body [] pos) (tSv X.K (sWhile n ds cb b)) := PS.imp (ps_while hp hc (sts_kill ds hb)) fun D σ H q => by
  obtain ⟨F0, H0, env, F, fl, S, e, k⟩ := q
  unfold sWhile at e
  refine ⟨fun m σ H => ∃ F2 env2, SR X.K F0 H0 env2 F2 σ H ∧ Same F F2 ∧ whileF m cb (sKill ds b) env2 = some fl, ⟨n, F, _, S.kill ds, Same.refl F, e⟩, ?_⟩
  rintro m σ2 H2 ⟨F2, env2, S2, s2, e2⟩
  cases m with
  | zero => cases e2
  | succ m =>
    unfold whileF at e2
    split at e2
    · rename_i e3 ec
      refine ⟨F0, H0, env2, F2, true, e3, S2, ec, fun F3 H3 S3 s3 => ?_⟩
      refine iteT ⟨fun σ H => ∃ F2 env2, SR X.K F0 H0 env2 F2 σ H ∧ Same F F2 ∧ whileF m cb (sKill ds b) env2 = some fl, fun σ' H' w => ⟨m, Nat.lt_succ_self m, w⟩, ?_⟩
      split at e2
      · rename_i e4 eb
        exact ⟨F0, H0, e3, F3, .nx e4, S3, eb, fun σ5 F5 H5 S5 s5 => ⟨F5, e4, S5, (s2.trans s3).trans s5, e2⟩⟩
      · rename_i e4 eb
        exact ⟨F0, H0, e3, F3, .ct e4, S3, eb, fun σ5 F5 H5 S5 s5 => ⟨F5, e4, S5, (s2.trans s3).trans s5, e2⟩⟩
      · rename_i e4 eb
        cases e2
        exact ⟨F0, H0, e3, F3, .bk e4, S3, eb, fun σ5 F5 H5 S5 s5 => k σ5 F5 H5 S5 ((s2.trans s3).trans s5)⟩
      · rename_i v eb
        cases e2
        exact ⟨F0, H0, e3, F3, .rt v, S3, eb, fun x5 F5 H5 S5 s5 r5 => k x5 F5 H5 S5 ((s2.trans s3).trans s5) r5⟩
      · cases e2
    · rename_i e3 ec
      cases e2
      exact ⟨F0, H0, env2, F2, false, e3, S2, ec, fun F3 H3 S3 s3 => iteF (k σ2 F3 H3 S3 (s2.trans s3))⟩
    · cases e2
theorem st_unp {es : List Expr} {is : List Nat} {k : Nat} {e : Expr} {fe : SE} {p2 : Pos} (hc : X.calm = true) (he : PE X e (tEv X.K fe)) (hg : PG X (.Tuple es k p2) (tGv X.K (gUnp is)))
    (hs : swapsWithSole [.Tuple es k p2] e pos.line X.env = pure false) (hw : swappedStores [.Tuple es k p2] e X.env = pure none)
    (h1 : (assignEach [.Tuple es k p2] X.env).map (·.2) = [assign (.Tuple es k p2) X.env]) : PS X (.Assign [.Tuple es k p2] e pos) (tSv X.K (sUnp is fe)) := PS.imp (ps_asg he hg hs hw h1) fun D σ H q => by
  obtain ⟨F0, H0, env, F, fl, S, e, k⟩ := q
  unfold sUnp at e
  split at e
  · rename_i v e1 ef
    split at e
    · rename_i e2 eg
      cases e
      exact ⟨F0, H0, env, F, v, e1, S, ef, fun x F' H' S' sf r => ⟨F0, H0, e1, F', v, e2, S', r, eg, fun σ' S2 => k σ' F' H' S2 sf⟩⟩
    · cases e
  · cases e
end
end Pv
/-! What is walked; comprehensions. -/
namespace Pv
open PySem PySem.Spec PyProof.Rows L2

/-! ### ranges and sequences -/
/-- a small int -/
def inR (n : Int) : Prop := n.natAbs < 4611686018427387904
instance (n : Int) : Decidable (inR n) := inferInstanceAs (Decidable (_ < _))
theorem inR_of {n : Int} (h0 : -1000000000000 ≤ n) (h : n ≤ 1000000000000) : inR n := by unfold inR; omega
theorem inR.lo {n : Int} (h : inR n) : -(2 ^ 62) ≤ n := by unfold inR at h; omega
theorem inR.hi {n : Int} (h : inR n) : n < 2 ^ 62 := by unfold inR at h; omega
@[simp] def rg1 : List PV → Option (List PV)
  | [.int n] => if inR n then some ((List.range n.toNat).map fun (i : Nat) => PV.int i) else none
  | _ => none
@[simp] def rg2 : List PV → Option (List PV)
  | [.int a, .int b] => if inR a ∧ inR b then some ((List.range (b - a).toNat).map fun (i : Nat) => PV.int (a + i)) else none
  | _ => none
@[simp] def iArg (g : List PV → Option (List PV)) (as : List Ar) : SI := fun env => match xArgs as env with
  | some (vs, e) => match g vs with
    | some xs => some (xs, e)
    | none => none
  | none => none
@[simp] def items : PV → Option (List PV)
  | .lst xs => some xs
  | .tup xs => some xs
  | .str l => some (l.map fun c => .str [c])
  | .scr ns => some (ns.map .int)
  | _ => none
@[simp] def iSeq (f : SE) : SI := fun env => match f env with
  | some (v, e) => match items v with
    | some xs => some (xs, e)
    | none => none
  | none => none
section
variable {X : Cx} {tg it : Expr} {as : List Ar} {f : SE}
theorem piOr {t t' : TI} (h : PI X tg it t) (h' : PI X tg it t') : PI X tg it (fun σ H R => t σ H R ∨ t' σ H R) := ⟨fun pins s σ H R I q => q.elim (h.run pins s σ H R I) (h'.run pins s σ H R I)⟩
theorem walk_ints {K : PySem.W.Frag} {F' : Hp} (lo : Int) (n : Nat) : Walk (Itr lo n) ((List.range n).map fun (i : Nat) => PV.int (lo + i)).length (fun H2 => ∃ F2, Same F' F2 ∧ Same F2 H2)
    (fun i H2 x H3 => ∀ F2, Same F' F2 → Same F2 H2 → ∃ F3, Gr F2 H2 F3 H3 ∧ ∃ p, ((List.range n).map fun (i : Nat) => PV.int (lo + i))[i]? = some p ∧ Rep K F3 p x) := by
  have hl : ((List.range n).map fun (i : Nat) => PV.int (lo + i)).length = n := by simp
  rw [hl]
  refine walk_range.mono (fun _ _ => trivial) fun i H x H' hi _ y F2 s1 s2 => ?_
  obtain ⟨rfl, rfl⟩ := y
  exact ⟨F2, Gr.refl s2, .int (lo + i), by simp [hi], rfl⟩
theorem it_rg1 {a : Expr} {o : Ar} {p pos : Pos} (hg : Gl X "range") (hm : X.mg "range" = none) (ha : PA X [a] (tArs X.K [o])) (hs : starEach [a] X.env = [(false, eval a X.env)]) :
    PI X tg (.Call (.Name "range" p) [a] [] pos) (tIv X.K (iArg rg1 [o])) := PI.imp (pi_range1 hg hm ha hs) fun σ H R q => by
  obtain ⟨F0, H0, env, F, xs, env', S, e, k⟩ := q
  unfold iArg at e
  split at e
  · rename_i vs e1 ea
    split at e
    · rename_i ys eg
      cases e
      refine args_ok [o] S ea fun ws F' H' S' sf rs => ?_
      unfold rg1 at eg
      split at eg
      · rename_i n
        split at eg
        · rename_i hn
          cases eg
          obtain ⟨x, t, rfl, rx, rfl⟩ := rs
          cases (show x = .int n from rx)
          have hw := walk_ints (K := X.K) (F' := F') 0 n.toNat
          simp only [Int.zero_add] at hw
          exact ⟨n, rfl, hn.lo, hn.hi, k _ F' H' S' sf hw⟩
        · cases eg
      · cases eg
    · cases e
  · cases e
theorem it_rg2 {a b : Expr} {o o2 : Ar} {p pos : Pos} (hg : Gl X "range") (hm : X.mg "range" = none) (ha : PA X [a, b] (tArs X.K [o, o2])) (hs : starEach [a, b] X.env = [(false, eval a X.env), (false, eval b X.env)]) (hs2 : starEach [b] X.env = [(false, eval b X.env)]) :
    PI X tg (.Call (.Name "range" p) [a, b] [] pos) (tIv X.K (iArg rg2 [o, o2])) := PI.imp (pi_range2 hg hm ha hs hs2) fun σ H R q => by
  obtain ⟨F0, H0, env, F, xs, env', S, e, k⟩ := q
  unfold iArg at e
  split at e
  · rename_i vs e1 ea
    split at e
    · rename_i ys eg
      cases e
      refine args_ok [o, o2] S ea fun ws F' H' S' sf rs => ?_
      unfold rg2 at eg
      split at eg
      · rename_i n m
        split at eg
        · rename_i hn
          cases eg
          obtain ⟨x, t, rfl, rx, y, t2, rfl, ry, rfl⟩ := rs
          cases (show x = .int n from rx)
          cases (show y = .int m from ry)
          exact ⟨n, m, rfl, ⟨hn.1.lo, hn.1.hi, hn.2.lo, hn.2.hi⟩, k _ F' H' S' sf (walk_ints (K := X.K) (F' := F') n (m - n).toNat)⟩
        · cases eg
      · cases eg
    · cases e
  · cases e
theorem it_seq (h : PE X it (tEv X.K f)) : PI X tg it (tIv X.K (iSeq f)) := PI.imp (piOr (pi_list h) (piOr (pi_tup h) (pi_str h))) fun σ H R q => by
  obtain ⟨F0, H0, env, F, xs, env', S, e, k⟩ := q
  unfold iSeq at e
  split at e
  · rename_i v e1 ef
    split at e
    · rename_i ys eg
      cases e
      unfold items at eg
      split at eg
      · cases eg
        refine .inl ⟨F0, H0, env, F, _, _, S, ef, fun x F' H' S' sf r => ?_⟩
        obtain ⟨a, vs, rfl, h1, h2⟩ := r
        have hl := h2.length
        refine ⟨a, rfl, ⟨vs, SqL.of (S'.fh _ _ h1)⟩, k _ F' H' S' sf ?_⟩
        rw [hl]
        refine walk_list.mono (fun H2 ⟨F2, s1, s2⟩ => SqL.of (s2 _ _ (s1 _ _ h1))) fun i H2 x H3 hi _ y F2 s1 s2 => ?_
        obtain ⟨rfl, y⟩ := y
        obtain ⟨p, q1, q2⟩ := h2.getV y
        exact ⟨F2, Gr.refl s2, p, q1, q2.mono s1⟩
      · cases eg
        refine .inr (.inl ⟨F0, H0, env, F, _, _, S, ef, fun x F' H' S' sf r => ?_⟩)
        obtain ⟨a, vs, rfl, h1, h2⟩ := r
        have hl := h2.length
        refine ⟨a, rfl, ⟨vs, Same.sqT S'.fh h1⟩, k _ F' H' S' sf ?_⟩
        rw [hl]
        refine walk_tup.mono (fun H2 ⟨F2, s1, s2⟩ => Same.sqT s2 (Same.sqT s1 h1)) fun i H2 x H3 hi _ y F2 s1 s2 => ?_
        obtain ⟨rfl, y⟩ := y
        obtain ⟨p, q1, q2⟩ := h2.getV y
        exact ⟨F2, Gr.refl s2, p, q1, q2.mono s1⟩
      · rename_i l
        cases eg
        refine .inr (.inr ⟨F0, H0, env, F, _, _, S, ef, fun x F' H' S' sf r => ?_⟩)
        cases (show x = .str (mkS l) from r)
        refine ⟨_, rfl, k _ F' H' S' sf ?_⟩
        have hl : (l.map fun c => PV.str [c]).length = (mkS l).cps.size := by simp [mkS]
        rw [hl]
        refine walk_str.mono (fun _ _ => trivial) fun i H2 x H3 hi _ y F2 s1 s2 => ?_
        obtain ⟨rfl, c, h1, rfl⟩ := y
        refine ⟨F2, Gr.refl s2, .str [c], ?_, rfl⟩
        have : l[i]? = some c := by simpa [mkS] using h1
        rw [List.getElem?_map, this]; rfl
      · rename_i ns
        cases eg
        refine .inl ⟨F0, H0, env, F, _, _, S, ef, fun x F' H' S' sf r => ?_⟩
        obtain ⟨a, rfl, h1⟩ := r
        refine ⟨a, rfl, ⟨_, S'.fh.seq h1⟩, k _ F' H' S' sf ?_⟩
        have hl : (ns.map PV.int).length = (ns.map V.int).length := by simp
        rw [hl]
        refine walk_list.mono (fun H2 ⟨F2, s1, s2⟩ => s2.seq (s1.seq h1)) fun i H2 x H3 hi _ y F2 s1 s2 => ?_
        obtain ⟨rfl, y⟩ := y
        rw [List.getElem?_map] at y
        cases q : ns[i]? with
        | none => rw [q] at y; cases y
        | some n =>
          rw [q] at y
          cases y
          exact ⟨F2, Gr.refl s2, .int n, by rw [List.getElem?_map, q]; rfl, rfl⟩
      · cases eg
    · cases e
  · cases e
end

/-! ### comprehensions -/
section
variable {K : PySem.W.Frag} {F0 H0 F H : Hp} {env : Env} {σ : L2.St}
/-- an object beside, held as it is -/
theorem SR.addH0 (S : SR K F0 H0 env F σ H) {D : Addr} {o : HO} (hD : H D = some o) (to : isTbl o = false) (nF : F D = none) (n0 : H0 D = none) (ns : NoSlot env σ D) : SR K F0 (upd H0 D o) env F σ H where
  f0 := S.f0
  h0 := ⟨fun b u hb t => by
      by_cases h : b = D
      · subst h; rw [upd_same] at hb; cases hb; exact hD
      · rw [upd_ne h] at hb; exact S.h0.at_ b u hb t, fun b ps hb => by
      by_cases h : b = D
      · subst h; rw [upd_same] at hb; cases hb; cases to
      · rw [upd_ne h] at hb; exact S.h0.tb b ps hb⟩
  fh := S.fh
  nt := S.nt
  fnew := fun a u h n => by
    have : a ≠ D := fun z => by rw [z, nF] at h; cases h
    rw [upd_ne this]; exact S.fnew a u h n
  len := S.len
  fr := S.fr
  ow := fun i v e => by
    obtain ⟨a, h1, h2, h3, h4⟩ := S.ow i v e
    have : a ≠ D := fun z => ns i v e (by rw [← z]; exact h1)
    exact ⟨a, h1, h2, by rw [upd_ne this]; exact h3, h4⟩
  dj := S.dj
theorem SR.subH0 {D : Addr} {o : HO} (S : SR K F0 (upd H0 D o) env F σ H) (n0 : H0 D = none) : SR K F0 H0 env F σ H where
  f0 := S.f0
  h0 := Kp.trans (Kp.of (same_upd n0)) S.h0
  fh := S.fh
  nt := S.nt
  fnew := fun a u h n => (Kp.of (same_upd n0)).free (S.fnew a u h n)
  len := S.len
  fr := S.fr
  ow := fun i v e => by
    obtain ⟨a, h1, h2, h3, h4⟩ := S.ow i v e
    exact ⟨a, h1, h2, (Kp.of (same_upd n0)).free h3, h4⟩
  dj := S.dj
theorem SR.noD {D : Addr} {o : HO} (S : SR K F0 (upd H0 D o) env F σ H) : NoSlot env σ D := fun i w e z => by
  obtain ⟨a, h1, _, h3, _⟩ := S.ow i w e
  rw [h1] at z
  cases z
  rw [upd_same] at h3
  cases h3
/-- H at an object that stands beside may be written -/
theorem SR.beside (S : SR K F0 H0 env F σ H) {D : Addr} {o : HO} (n0 : H0 D = none) (nF : F D = none) (ns : NoSlot env σ D) : SR K F0 H0 env F σ (upd H D o) where
  f0 := S.f0
  h0 := ⟨fun b u hb t => by
      have : b ≠ D := fun z => by rw [z, n0] at hb; cases hb
      rw [upd_ne this]; exact S.h0.at_ b u hb t, fun b ps hb => by
      have : b ≠ D := fun z => by rw [z, n0] at hb; cases hb
      rw [upd_ne this]; exact S.h0.tb b ps hb⟩
  fh := fun b u hb => by
      have : b ≠ D := fun z => by rw [z, nF] at hb; cases hb
      rw [upd_ne this]; exact S.fh b u hb
  nt := S.nt
  fnew := S.fnew
  len := S.len
  fr := S.fr
  ow := fun i v e => by
    obtain ⟨a, h1, h2, h3, h4⟩ := S.ow i v e
    have : a ≠ D := fun z => ns i v e (by rw [← z]; exact h1)
    exact ⟨a, h1, h2, h3, h4.mono (Same.refl F) fun u hu => by rw [upd_ne this]; exact hu⟩
  dj := S.dj
theorem SR.wipe (S : SR K F0 H0 env F σ H) (vs : List Nat) : SR K F0 H0 (killE vs env) F (L2.wipe σ vs) H := by
  have S' := S.kill vs
  have out : ∀ (vs : List Nat) (env : Env) (i : Nat) (s : Slot), (killE vs env)[i]? = some s → s ≠ .none → i ∉ vs := by
    intro vs
    induction vs with
    | nil => intro env i s _ _; simp
    | cons v vs ih =>
      intro env i s e ns
      have h1 := ih (env.set v .none) i s e ns
      intro hm
      rcases List.mem_cons.mp hm with h | h
      · subst h
        have : ∀ (ws : List Nat) (en : Env), en[i]? = some .none → (killE ws en)[i]? = some .none := by
          intro ws
          induction ws with
          | nil => intro en h; exact h
          | cons w ws ih2 =>
            intro en h
            refine ih2 _ ?_
            rw [List.getElem?_set]
            split
            · rename_i hw
              subst hw
              have hlt : w < en.length := by
                rcases Nat.lt_or_ge w en.length with h2 | h2
                · exact h2
                · rw [List.getElem?_eq_none h2] at h; cases h
              simp [hlt]
            · exact h
        have hlen : i < env.length := by
          rcases Nat.lt_or_ge i env.length with h2 | h2
          · exact h2
          · have hk : (killE vs (env.set i .none)).length = env.length := by
              have : ∀ (ws : List Nat) (en : Env), (killE ws en).length = en.length := by
                intro ws
                induction ws with
                | nil => intro en; rfl
                | cons w ws ih2 => intro en; show (killE ws (en.set w .none)).length = _; rw [ih2, set_len]
              rw [this, set_len]
            have e' : (killE vs (env.set i .none))[i]? = some s := e
            rw [List.getElem?_eq_none (by rw [hk]; exact h2)] at e'
            cases e'
        have h2 := this vs (env.set i .none) (by rw [List.getElem?_set_self hlen])
        have e' : (killE vs (env.set i .none))[i]? = some s := e
        rw [h2] at e'
        cases e'
        exact ns rfl
      · exact h1 h
  have same : ∀ (vs : List Nat) (i : Nat), i ∉ vs → (L2.wipe σ vs)[i]? = σ[i]? := by
    intro vs
    induction vs with
    | nil => intro i _; rfl
    | cons v vs ih =>
      intro i hi
      rw [List.mem_cons, not_or] at hi
      show ((L2.wipe σ vs).set v none)[i]? = _
      rw [List.getElem?_set_ne (fun z => hi.1 z.symm)]
      exact ih i hi.2
  exact {
    toHR := S'.toHR
    len := by rw [wipe_length]; exact S'.len
    fr := fun i v e => by
      obtain ⟨x, h1, h2⟩ := S'.fr i v e
      exact ⟨x, by rw [same vs i (out vs env i _ e (by intro z; cases z))]; exact h1, h2⟩
    ow := fun i v e => by
      obtain ⟨a, h1, h2⟩ := S'.ow i v e
      exact ⟨a, by rw [same vs i (out vs env i _ e (by intro z; cases z))]; exact h1, h2⟩
    dj := fun i j v w a ei ej hi hj => by
      rw [same vs i (out vs env i _ ei (by intro z; cases z))] at hi
      rw [same vs j (out vs env j _ ej (by intro z; cases z))] at hj
      exact S'.dj i j v w a ei ej hi hj }
theorem SR.unwipe {vs : List Nat} (S : SR K F0 H0 env F (L2.wipe σ vs) H) : SR K F0 H0 env F σ H where
  toHR := S.toHR
  len := by rw [← wipe_length σ vs]; exact S.len
  fr := fun i v e => by
    obtain ⟨x, h1, h2⟩ := S.fr i v e
    exact ⟨x, (wipe_some h1).1, h2⟩
  ow := fun i v e => by
    obtain ⟨a, h1, h2⟩ := S.ow i v e
    exact ⟨a, (wipe_some h1).1, h2⟩
  dj := fun i j v w a ei ej hi hj => by
    obtain ⟨b, h1, _⟩ := S.ow i v ei
    obtain ⟨c, h2, _⟩ := S.ow j w ej
    have q1 := (wipe_some h1).1
    have q2 := (wipe_some h2).1
    rw [hi] at q1
    rw [hj] at q2
    cases q1
    cases q2
    exact S.dj i j v w a ei ej h1 h2
theorem wipe_wipe (σ : L2.St) (vs : List Nat) : L2.wipe (L2.wipe σ vs) vs = L2.wipe σ vs := by
  apply List.ext_getElem?
  intro i
  by_cases hi : i ∈ vs
  · have h1 : ∀ (τ : L2.St) (x : V), (L2.wipe τ vs)[i]? ≠ some (some x) := fun τ x z => (wipe_some z).2 hi
    have e1 : ∀ τ : L2.St, τ.length = σ.length → (L2.wipe τ vs)[i]? = if i < σ.length then some none else none := fun τ hl => by
      cases q : (L2.wipe τ vs)[i]? with
      | none =>
        have := List.getElem?_eq_none_iff.mp q
        rw [wipe_length, hl] at this
        rw [if_neg (by omega)]
      | some u =>
        have hlt : i < (L2.wipe τ vs).length := (List.getElem?_eq_some_iff.mp q).1
        rw [wipe_length, hl] at hlt
        rw [if_pos hlt]
        cases u with
        | none => rfl
        | some x => exact absurd q (h1 τ x)
    rw [e1 _ (wipe_length σ vs), e1 σ rfl]
  · have same : ∀ (vs : List Nat) (τ : L2.St), i ∉ vs → (L2.wipe τ vs)[i]? = τ[i]? := by
      intro vs
      induction vs with
      | nil => intro τ _; rfl
      | cons v vs ih =>
        intro τ hi
        rw [List.mem_cons, not_or] at hi
        show ((L2.wipe τ vs).set v none)[i]? = _
        rw [List.getElem?_set_ne (fun z => hi.1 z.symm)]
        exact ih τ hi.2
    rw [same vs _ hi]
theorem wipe_set {σ : L2.St} {i : Nat} {x : Option V} {vs : List Nat} (h : i ∈ vs) : L2.wipe (σ.set i x) vs = L2.wipe σ vs := by
  induction vs with
  | nil => cases h
  | cons v vs ih =>
    by_cases hv : i ∈ vs
    · show (L2.wipe (σ.set i x) vs).set v none = (L2.wipe σ vs).set v none
      rw [ih hv]
    · rcases List.mem_cons.mp h with e | e
      · subst e
        have comm : ∀ (ws : List Nat), i ∉ ws → L2.wipe (σ.set i x) ws = (L2.wipe σ ws).set i x := by
          intro ws
          induction ws with
          | nil => intro _; rfl
          | cons w ws ih2 =>
            intro hw
            rw [List.mem_cons, not_or] at hw
            show (L2.wipe (σ.set i x) ws).set w none = ((L2.wipe σ ws).set w none).set i x
            rw [ih2 hw.2, List.set_comm _ _ hw.1]
        show (L2.wipe (σ.set i x) vs).set i none = (L2.wipe σ vs).set i none
        rw [comm vs hv, List.set_set]
      · exact absurd e hv
end
/-- a comprehension's target: the slots of its own are stored -/
def GOk (K : PySem.W.Frag) (g : TG) (sg : SG) (vs : List Nat) : Prop := ∀ (F0 H0 F H : Hp) (env e1 : Env) (σ : L2.St) (p : PV) (x : V) (Q : L2.St → Hp → Prop), SR K F0 H0 env F σ H → Rep K F p x → sg p env = some e1 →
  (∀ σ2, SR K F0 H0 e1 F σ2 H → L2.wipe σ2 vs = L2.wipe σ vs → Q σ2 H) → g x σ H Q
theorem gok_name {K : PySem.W.Frag} {i : Nat} {vs : List Nat} (h : i ∈ vs) : GOk K (gName i) (gSet i) vs := fun F0 H0 F H env e1 σ p x Q S r e k => by
  cases e
  exact k _ (S.setFr i r) (wipe_set h)
theorem gok_names {K : PySem.W.Frag} {vs : List Nat} {F0 H0 F H : Hp} {Q : L2.St → Hp → Prop} : ∀ (is : List Nat), (∀ i ∈ is, i ∈ vs) → ∀ {ps : List PV} {ws : List V} {env env' : Env} {σ : L2.St}, SR K F0 H0 env F σ H → RepL K F ps ws → setAll is ps env = some env' →
    (∀ σ', SR K F0 H0 env' F σ' H → L2.wipe σ' vs = L2.wipe σ vs → Q σ' H) → gNames is ws σ H Q
  | [], _, ps, ws, env, env', σ, S, r, e, k => by
    cases ps with
    | nil => cases r; cases e; exact ⟨rfl, k σ S rfl⟩
    | cons p ps => cases e
  | i :: is, hm, ps, ws, env, env', σ, S, r, e, k => by
    cases ps with
    | nil => cases e
    | cons p ps =>
      obtain ⟨v, t, rfl, r1, r2⟩ := r
      refine ⟨v, t, rfl, gok_names is (fun j hj => hm j (by simp [hj])) (S.setFr i r1) r2 e fun σ' S' w => k σ' S' (w.trans (wipe_set (hm i (by simp))))⟩
theorem gok_unp {K : PySem.W.Frag} {is vs : List Nat} (h : ∀ i ∈ is, i ∈ vs) : GOk K (gTup K is.length (gNames is)) (gUnp is) vs := fun F0 H0 F H env e1 σ p x Q S r e k => by
  unfold gUnp at e
  split at e
  · obtain ⟨a, ws, rfl, h1, h2⟩ := r
    exact ⟨a, ws, rfl, Same.sqT S.fh h1, by rw [← h2.length]; exact setAll_len is e, gok_names is h S h2 e k⟩
  · cases e
def compL (g : SG) (t : SB) (f : SE) (vs : List Nat) : List PV → Env → Option (List PV × Env)
  | [], env => some ([], env)
  | x :: xs, env => match g x env with
    | some e1 => match t e1 with
      | some (true, e2) => match f e2 with
        | some (v, e3) => match compL g t f vs xs (killE vs e3) with
          | some (r, e4) => some (v :: r, e4)
          | none => none
        | none => none
      | some (false, e2) => compL g t f vs xs (killE vs e2)
      | none => none
    | none => none
@[simp] def bYes : SB := fun env => some (true, env)
@[simp] def xComp (fi : SI) (g : SG) (t : SB) (f : SE) (vs : List Nat) : SE := fun env => match fi env with
  | some (xs, e) => if xs.length ≤ sizeLine then match compL g t f vs xs (killE vs e) with
    | some (r, e2) => some (.lst r, e2)
    | none => none
    else none
  | none => none
theorem tYes_imp {K : PySem.W.Frag} : ∀ σ H Q, tTv K bYes σ H Q → tYes σ H Q := fun σ H Q q => by
  obtain ⟨F0, H0, env, F, b, env', S, e, k⟩ := q
  cases e
  exact k F H S (Same.refl F)
theorem kill_wipe {K : PySem.W.Frag} {F0 H0 F H : Hp} {env : Env} {σ τ : L2.St} {vs : List Nat} (S : SR K F0 H0 env F τ H) (w : L2.wipe τ vs = L2.wipe σ vs) : SR K F0 H0 (killE vs env) F (L2.wipe σ vs) H := by
  have h := S.wipe vs
  rw [w] at h
  exact h
theorem comp_ok {K : PySem.W.Frag} {fi : SI} {g : TG} {sg : SG} {tt : TT} {t : SB} {f : SE} {vs : List Nat} (hg : GOk K g sg vs) (ht : ∀ σ H Q, tTv K t σ H Q → tt σ H Q) :
    ∀ σ H Q, tNw K (xComp fi sg t f vs) σ H Q → tLc (tIv K fi) g tt (tEv K f) vs σ H Q := fun σ H Q q => by
  obtain ⟨F0, H0, env, F, v, env', S, e, k⟩ := q
  unfold xComp at e
  split at e
  · rename_i xs e1 ei
    split at e
    · rename_i hz
      split at e
      · rename_i r e2 ec
        cases e
        refine ⟨F0, H0, env, F, xs, e1, S, ei, fun J F1 H1 S1 sf1 w D hD => ?_⟩
        have nF1 : F1 D = none := S1.fh.free hD
        have n0 : H0 D = none := S1.h0.free hD
        -- at turn i: what is made so far, and what the rest makes
        refine lc_it w (fun i H2 => ∃ F2 env2 acc zs ws, SR K F0 (upd H0 D (.lst acc)) env2 F2 (L2.wipe σ vs) H2 ∧ Same F1 F2 ∧ F2 D = none ∧ RepL K F2 zs acc ∧ acc.length ≤ i ∧ compL sg t f vs (xs.drop i) env2 = some (ws, env') ∧ r = zs ++ ws) ?_ (fun i H2 _ ⟨F2, env2, acc, zs, ws, S2, s2, _⟩ => ⟨F2, s2, S2.fh⟩) ?_ ?_
        · have Sw := (S1.wipe vs).gr (Gr.beside S1.fh (o := .lst []) hD)
          refine ⟨F1, killE vs e1, [], [], r, ?_, Same.refl F1, nF1, rfl, Nat.le_refl _, ec, rfl⟩
          exact Sw.addH0 upd_same rfl nF1 n0 (noSlot_new (S1.wipe vs) hD)
        · rintro i x H2 H3 hi ⟨F2, env2, acc, zs, ws, S2, s2, nF2, ra, hl, e3, er⟩ y
          obtain ⟨F3, gr, p, hp, rp⟩ := y F2 s2 S2.fh
          have hd : xs.drop i = p :: xs.drop (i + 1) := by
            rw [List.drop_eq_getElem_cons hi]
            rw [List.getElem?_eq_getElem hi] at hp
            cases hp; rfl
          rw [hd] at e3
          have S3 := S2.gr gr
          have nF3 : F3 D = none := by
            cases q : F3 D with
            | none => rfl
            | some u =>
              have := gr.nw D u q nF2
              have h2 := S2.h0.at_ D _ upd_same rfl
              rw [this] at h2
              cases h2
          unfold compL at e3
          split at e3
          · rename_i e4 eg
            refine hg F0 _ F3 H3 env2 e4 (L2.wipe σ vs) p x _ S3 rp eg fun σ4 S4 w4 => ⟨w4.trans (wipe_wipe σ vs), ?_⟩
            rw [wipe_wipe] at w4
            split at e3
            · rename_i e5 et
              refine ht _ _ _ ⟨F0, _, e4, F3, true, e5, S4, et, fun F5 H5 S5 s5 => ?_⟩
              refine iteT ?_
              split at e3
              · rename_i u e6 ef
                refine ⟨F0, _, e5, F5, u, e6, S5, ef, fun z F6 H6 S6 s6 r6 => ?_⟩
                split at e3
                · rename_i ws2 e7 ec2
                  cases e3
                  have hD6 : H6 D = some (.lst acc) := S6.h0.at_ D _ upd_same rfl
                  have nF6 : F6 D = none := by
                    cases q : F6 D with
                    | none => rfl
                    | some u =>
                      cases q0 : F0 D with
                      | none =>
                        have := S6.fnew D u q q0
                        rw [upd_same] at this
                        cases this
                      | some u0 =>
                        have := S1.f0 D u0 q0
                        rw [nF1] at this
                        cases this
                  have hl2 : acc.length < sizeLine := by omega
                  refine ⟨acc, hD6, hl2, F6, killE vs e6, acc ++ [z], zs ++ [u], ws2, ?_, ((s2.trans gr.ff).trans s5).trans s6, nF6, ?_, by simp; omega, ec2, by rw [er]; simp⟩
                  · have n2 := S6.noD
                    have Sb := ((S6.subH0 n0).beside (o := .lst (acc ++ [z])) n0 nF6 n2)
                    have Sk := kill_wipe Sb w4
                    refine Sk.addH0 upd_same rfl nF6 n0 ?_
                    intro i w ei hz2
                    have S7 := kill_wipe (S6.subH0 n0) w4
                    have S8 := kill_wipe S6 w4
                    exact S8.noD i w ei hz2
                  · exact (ra.mono (((gr.ff).trans s5).trans s6)).append ⟨z, [], rfl, r6, rfl⟩
                · cases e3
              · cases e3
            · rename_i e5 et
              refine ht _ _ _ ⟨F0, _, e4, F3, false, e5, S4, et, fun F5 H5 S5 s5 => ?_⟩
              refine iteF ?_
              have nF5 : F5 D = none := by
                cases q : F5 D with
                | none => rfl
                | some u =>
                  cases q0 : F0 D with
                  | none =>
                    have := S5.fnew D u q q0
                    rw [upd_same] at this
                    cases this
                  | some u0 =>
                    have := S1.f0 D u0 q0
                    rw [nF1] at this
                    cases this
              exact ⟨F5, killE vs e5, acc, zs, ws, kill_wipe S5 w4, (s2.trans gr.ff).trans s5, nF5, ra.mono (gr.ff.trans s5), by omega, e3, er⟩
            · cases e3
          · cases e3
        · rintro H2 ⟨F2, env2, acc, zs, ws, S2, s2, nF2, ra, hl, e3, er⟩
          rw [List.drop_length] at e3
          cases e3
          rw [List.append_nil] at er
          subst er
          have hD2 : H2 D = some (.lst acc) := S2.h0.at_ D _ upd_same rfl
          exact k D F2 H2 ((S2.subH0 n0).unwipe) (sf1.trans s2) nF2 n0 ⟨acc, hD2, ra⟩ (fun i w ei hz => S2.unwipe.noD i w ei hz)
      · cases e
    · cases e
  · cases e
section
variable {X : Cx} {elt tg iter : Expr} {ifs : List Expr} {scope : Scope} {own : List (Str × Nat)} {pos spos : Pos} {fi : SI} {g : TG} {sg : SG} {tt : TT} {t : SB} {f : SE}
theorem nw_comp {vs : List Nat} (hc : X.calm = true) (hN : X.N.Nodup) (hv : own.map (·.2) = vs) (ok : BlkOk X.N X.env.scope scope own) (hi : PI X tg iter (tIv X.K fi)) (gk : GOk X.K g sg vs) (tk : ∀ σ H Q, tTv X.K t σ H Q → tt σ H Q)
    (hg : ∀ (s : Shared) (H : Hp) (C : Addr) (cl : List (Str × Addr)) (fp : List Addr), PG (X.blk s H scope (compEnvC scope cl C X.env) fp) tg g)
    (ht : ∀ (s : Shared) (H : Hp) (C : Addr) (cl : List (Str × Addr)) (fp : List Addr), PTs (X.blk s H scope (compEnvC scope cl C X.env) fp) ifs tt)
    (he : ∀ (s : Shared) (H : Hp) (C : Addr) (cl : List (Str × Addr)) (fp : List Addr), PE (X.blk s H scope (compEnvC scope cl C X.env) fp) elt (tEv X.K f)) (hs : ∀ x, foldedSetIterable iter X.env x = pure x) :
    PE X (.ListComp elt [⟨tg, iter, ifs, 0⟩] scope pos) (tNw X.K (xComp fi sg t f vs)) := by
  subst hv
  exact PE.imp (pe_lc hc hN hi ok hg ht he hs) (comp_ok gk tk)
theorem ps_comp {vs : List Nat} {i : Nat} {y : Str} {py : Pos} (hc : X.calm = true) (hN : X.N.Nodup) (hy : X.N[i]? = some y) (hyl : X.env.scope.names.lookup y = some .local)
    (hsw : swapsWith (.ListComp elt [⟨tg, iter, ifs, 0⟩] scope pos) (some (.Name y py)) spos.line X.env = pure true) (hv : own.map (·.2) = vs) (ok : BlkOk X.N X.env.scope scope own) (hi : PI X tg iter (tIv X.K fi)) (gk : GOk X.K g sg vs) (tk : ∀ σ H Q, tTv X.K t σ H Q → tt σ H Q)
    (hg : ∀ (s : Shared) (H : Hp) (C : Addr) (cl : List (Str × Addr)) (fp : List Addr), PG (X.blk s H scope (compEnvC scope cl C X.env) fp) tg g)
    (ht : ∀ (s : Shared) (H : Hp) (C : Addr) (cl : List (Str × Addr)) (fp : List Addr), PTs (X.blk s H scope (compEnvC scope cl C X.env) fp) ifs tt)
    (he : ∀ (s : Shared) (H : Hp) (C : Addr) (cl : List (Str × Addr)) (fp : List Addr), PE (X.blk s H scope (compEnvC scope cl C X.env) fp) elt (tEv X.K f)) (hs : ∀ x, foldedSetIterable iter X.env x = pure x) :
    PS X (.Assign [.Name y py] (.ListComp elt [⟨tg, iter, ifs, 0⟩] scope pos) spos) (tAsg (tNw X.K (xComp fi sg t f vs)) (gName i)) := by
  subst hv
  exact PS.imp (ps_setLc hc hN hy hyl hsw hi ok hg ht he hs) (tAsg_imp (comp_ok gk tk))
theorem ps_nwev {st : Stmt} {fe : SE} {i : Nat} (h : PS X st (tAsg (tNw X.K fe) (gName i))) : PS X st (tAsg (tEv X.K fe) (gName i)) := PS.imp h (tAsg_imp fun _ _ _ q => tNw_ev q)
end
end Pv
/-! Methods that change an owned list, stores, calls of defs, a def's promise. -/
namespace Pv
open PySem PySem.Spec PyProof.Rows L2

/-! ### methods of an owned list -/
@[simp] def xMut (i : Nat) (g : List PV → List PV → Option (PV × List PV)) (as : List Ar) : SE := fun env => match env[i]? with
  | some (.ow (.lst _)) => match xArgs as env with
    | some (vs, e1) => match e1[i]? with
      | some (.ow (.lst xs)) => match g xs vs with
        | some (c, ys) => some (c, e1.set i (.ow (.lst ys)))
        | none => none
      | _ => none
    | none => none
  | _ => none
def RMu (K : PySem.W.Frag) (ra : Hp → Hp → List PV → List V → Prop) (g : List PV → List PV → Option (PV × List PV)) (r : V → List V → Hp → VK → Prop) : Prop :=
  ∀ (F H : Hp) (xs ps ys : List PV) (c : PV) (l : Addr) (vs ws : List V) (Q : VK), Same F H → H l = some (.lst vs) → RepL K F xs vs → ra F H ps ws → g xs ps = some (c, ys) →
    (∀ v vs', Rep K F c v → RepL K F ys vs' → Q v (upd H l (.lst vs'))) → r (.ref l) ws H Q
@[simp] def appG (xs : List PV) : List PV → Option (PV × List PV)
  | [v] => if xs.length < sizeLine then some (.non, xs ++ [v]) else none
  | _ => none
@[simp] def popG (xs : List PV) : List PV → Option (PV × List PV)
  | [] => match xs[xs.length - 1]? with
    | some y => some (y, xs.dropLast)
    | none => none
  | _ => none
def popAtG (xs : List PV) : List PV → Option (PV × List PV)
  | [.int i] => if inR i then match seqIndex? i xs.length with
    | some k => match xs[k]? with
      | some y => some (y, xs.eraseIdx k)
      | none => none
    | none => none
    else none
  | _ => none
@[simp] def insG (xs : List PV) : List PV → Option (PV × List PV)
  | [.int i, v] => if 0 ≤ i ∧ inR i ∧ xs.length < sizeLine then some (.non, xs.take i.toNat ++ [v] ++ xs.drop i.toNat) else none
  | _ => none
@[simp] def extG (xs : List PV) : List PV → Option (PV × List PV)
  | [.lst zs] => if xs.length + zs.length ≤ sizeLine then some (.non, xs ++ zs) else none
  | _ => none
section
variable {K : PySem.W.Frag}
theorem mu_app : RMu K (fun F _ => RepL K F) appG rAppend := fun F H xs ps ys c l vs ws Q sf hl rx rp eg k => by
  unfold appG at eg
  split at eg
  · split at eg
    · rename_i hz
      cases eg
      obtain ⟨v, t, rfl, r1, rfl⟩ := rp
      exact ⟨l, vs, v, rfl, rfl, hl, by rw [← rx.length]; exact hz, k _ _ rfl (rx.append ⟨v, [], rfl, r1, rfl⟩)⟩
    · cases eg
  · cases eg
theorem RepL.dropLast {F : Hp} {xs : List PV} {vs : List V} (h : RepL K F xs vs) : RepL K F xs.dropLast vs.dropLast := by
  rw [List.dropLast_eq_take, List.dropLast_eq_take, h.length]
  exact h.take _
theorem RepL.eraseIdx {F : Hp} {xs : List PV} {vs : List V} (k : Nat) (h : RepL K F xs vs) : RepL K F (xs.eraseIdx k) (vs.eraseIdx k) := by
  rw [List.eraseIdx_eq_take_drop_succ, List.eraseIdx_eq_take_drop_succ]
  exact (h.take _).append (h.drop _)
theorem RepL.set {F : Hp} {xs : List PV} {vs : List V} (k : Nat) {p : PV} {v : V} (r : Rep K F p v) (h : RepL K F xs vs) : RepL K F (xs.set k p) (vs.set k v) := by
  refine RepL.of (by simp [h.length]) fun i x w e1 e2 => ?_
  rcases getElem?_set_of e1 with ⟨hij, e3, hl⟩ | ⟨hij, e3⟩
  · subst hij
    subst e3
    rw [List.getElem?_set_self (by rw [← h.length]; exact hl)] at e2
    cases e2
    exact r
  · rw [List.getElem?_set_ne hij] at e2
    obtain ⟨u, q1, q2⟩ := h.get e3
    rw [e2] at q1
    cases q1
    exact q2
theorem mu_pop : RMu K (fun F _ => RepL K F) popG rPop := fun F H xs ps ys c l vs ws Q sf hl rx rp eg k => by
  unfold popG at eg
  split at eg
  · split at eg
    · rename_i y ey
      cases eg
      cases rp
      obtain ⟨v, q1, q2⟩ := rx.get ey
      rw [rx.length] at q1
      exact ⟨l, vs, v, rfl, rfl, hl, q1, k _ _ q2 rx.dropLast⟩
    · cases eg
  · cases eg
theorem mu_popAt : RMu K (fun F _ => RepL K F) popAtG rPopAt := fun F H xs ps ys c l vs ws Q sf hl rx rp eg k => by
  unfold popAtG at eg
  split at eg
  · split at eg
    · rename_i i hi
      split at eg
      · rename_i j ej
        split at eg
        · rename_i y ey
          cases eg
          obtain ⟨v, t, rfl, r1, rfl⟩ := rp
          cases (show v = .int i from r1)
          obtain ⟨w, q1, q2⟩ := rx.get ey
          exact ⟨l, vs, i, j, w, rfl, rfl, hl, by have := hi.lo; omega, by have := hi.hi; omega, by rw [← rx.length]; exact ej, q1, k _ _ q2 (rx.eraseIdx j)⟩
        · cases eg
      · cases eg
    · cases eg
  · cases eg
theorem mu_ins : RMu K (fun F _ => RepL K F) insG (fun x vs H Q => ∃ (l : Addr) (xs : List V) (i : Int) (y : V), x = .ref l ∧ vs = [.int i, y] ∧ H l = some (.lst xs) ∧ xs.length < sizeLine ∧ 0 ≤ i ∧ i < 2 ^ 63 ∧
    Q .non (upd H l (.lst (xs.take i.toNat ++ [y] ++ xs.drop i.toNat)))) := fun F H xs ps ys c l vs ws Q sf hl rx rp eg k => by
  unfold insG at eg
  split at eg
  · split at eg
    · rename_i i v hi
      cases eg
      obtain ⟨u, t, rfl, r1, w, t2, rfl, r2, rfl⟩ := rp
      cases (show u = .int i from r1)
      exact ⟨l, vs, i, w, rfl, rfl, hl, by rw [← rx.length]; exact hi.2.2, hi.1, by have := hi.2.1.hi; omega, k _ _ rfl (((rx.take _).append (ys := [v]) (RepL.cons r2 (show RepL K F [] [] from rfl))).append (rx.drop _))⟩
    · cases eg
  · cases eg
theorem mu_ext : RMu K (RepBL K) extG rExtend := fun F H xs ps ys c l vs ws Q sf hl rx rp eg k => by
  unfold extG at eg
  split at eg
  · split at eg
    · rename_i zs hz
      cases eg
      obtain ⟨v, t, rfl, ⟨b, us, rfl, h1, h2⟩, rfl⟩ := rp
      exact ⟨l, b, vs, us, rfl, rfl, hl, h1, by rw [← rx.length, ← h2.length]; exact hz, k _ _ rfl (rx.append h2)⟩
    · cases eg
  · cases eg
theorem SR.lstAt {F0 H0 F H : Hp} {env : Env} {σ : L2.St} {i : Nat} {xs : List PV} (S : SR K F0 H0 env F σ H) (e : env[i]? = some (.ow (.lst xs))) : ∃ l vs, σ[i]? = some (some (.ref l)) ∧ F l = none ∧ H l = some (.lst vs) ∧ RepL K F xs vs := by
  obtain ⟨a, h1, h2, h3, vs, h4, h5⟩ := S.ow i _ e
  exact ⟨a, vs, h1, h2, h4, h5⟩
theorem SR.mutL {F0 H0 F H : Hp} {env : Env} {σ : L2.St} {i : Nat} {xs ys : List PV} {l : Addr} {vs : List V} (S : SR K F0 H0 env F σ H) (e : env[i]? = some (.ow (.lst xs))) (hl : σ[i]? = some (some (.ref l))) (r : RepL K F ys vs) :
    SR K F0 H0 (env.set i (.ow (.lst ys))) F σ (upd H l (.lst vs)) := S.mut e hl rfl ⟨vs, upd_same, r⟩
end
theorem xMut_def {i : Nat} {g : List PV → List PV → Option (PV × List PV)} {as : List Ar} {env env' : Env} {c : PV} (h : xMut i g as env = some (c, env')) :
    ∃ xs0 vs e1 xs ys, env[i]? = some (.ow (.lst xs0)) ∧ xArgs as env = some (vs, e1) ∧ e1[i]? = some (.ow (.lst xs)) ∧ g xs vs = some (c, ys) ∧ env' = e1.set i (.ow (.lst ys)) := by
  unfold xMut at h
  split at h
  · rename_i xs0 e0
    split at h
    · rename_i vs e1 ea
      split at h
      · rename_i xs ex
        split at h
        · rename_i c' ys eg
          cases h
          exact ⟨xs0, vs, e1, xs, ys, e0, ea, ex, eg, rfl⟩
        · cases h
      · cases h
    · cases h
  · cases h
section
variable {X : Cx} {e : Expr} {i : Nat} {as : List Ar} {g : List PV → List PV → Option (PV × List PV)} {r : V → List V → Hp → VK → Prop}
theorem ev_mut (ae : allEx as) (h : PE X e (tBM X.K "list" r (tVar i) (tArs X.K as))) (mu : RMu X.K (fun F _ => RepL X.K F) g r) : PE X e (tEv X.K (xMut i g as)) := PE.imp h fun σ H Q q => by
  obtain ⟨F0, H0, env, F, c, env', S, e, k⟩ := q
  obtain ⟨xs0, vs, e1, xs, ys, e0, ea, ex, eg, rfl⟩ := xMut_def e
  obtain ⟨l, us, h1, _, h3, _⟩ := S.lstAt e0
  refine ⟨.ref l, h1, .inl ⟨rfl, us, SqL.of h3⟩, exs_ok as ae S ea fun ws F' H' S' sf rs => ?_⟩
  obtain ⟨l', us', q1, q2, q3, q4⟩ := S'.lstAt ex
  rw [h1] at q1
  cases q1
  exact mu F' H' xs vs ys c l us' ws Q S'.fh q3 q4 rs eg fun v vs' rv rl => k v F' _ (S'.mutL ex h1 rl) sf rv
theorem ev_mutB (h : PE X e (tBM X.K "list" r (tVar i) (tArs X.K as))) (mu : RMu X.K (RepBL X.K) g r) : PE X e (tEv X.K (xMut i g as)) := PE.imp h fun σ H Q q => by
  obtain ⟨F0, H0, env, F, c, env', S, e, k⟩ := q
  obtain ⟨xs0, vs, e1, xs, ys, e0, ea, ex, eg, rfl⟩ := xMut_def e
  obtain ⟨l, us, h1, _, h3, _⟩ := S.lstAt e0
  refine ⟨.ref l, h1, .inl ⟨rfl, us, SqL.of h3⟩, args_ok as S ea fun ws F' H' S' sf rs => ?_⟩
  obtain ⟨l', us', q1, q2, q3, q4⟩ := S'.lstAt ex
  rw [h1] at q1
  cases q1
  exact mu F' H' xs vs ys c l us' ws Q S'.fh q3 q4 rs eg fun v vs' rv rl => k v F' _ (S'.mutL ex h1 rl) sf rv
theorem ev_mut0 (h : PE X e (tBM0 X.K "list" r (tVar i))) (mu : RMu X.K (fun F _ => RepL X.K F) g r) : PE X e (tEv X.K (xMut i g [])) := PE.imp h fun σ H Q q => by
  obtain ⟨F0, H0, env, F, c, env', S, e, k⟩ := q
  obtain ⟨xs0, vs, e1, xs, ys, e0, ea, ex, eg, rfl⟩ := xMut_def e
  cases ea
  obtain ⟨l, us, h1, _, h3, h4⟩ := S.lstAt ex
  refine ⟨.ref l, h1, .inl ⟨rfl, us, SqL.of h3⟩, ?_⟩
  exact mu F H xs [] ys c l us [] Q S.fh h3 h4 rfl eg fun v vs' rv rl => k v F _ (S.mutL ex h1 rl) (Same.refl F) rv
end
/-- a method's name and what it does -/
structure MutR (X : Cx) (m : Str) (ra : Hp → Hp → List PV → List V → Prop) (g : List PV → List PV → Option (PV × List PV)) : Prop where
  ok : ∃ id r, PySem.Slot "list" m id ∧ typeOf (.builtin id) = pure (.type "method_descriptor") ∧ MtR X id r ∧ RMu X.K ra g r
section
variable {X : Cx} {o a : Expr} {es : List Expr} {m : Str} {i : Nat} {oa : Ar} {as : List Ar} {g : List PV → List PV → Option (PV × List PV)} {apos cpos : Pos}
theorem m_app : MutR X "append" (fun F _ => RepL X.K F) appG := ⟨_, _, PySem.F.slot_list_append, PySem.F.type_list_append, mt_append, mu_app⟩
theorem m_pop : MutR X "pop" (fun F _ => RepL X.K F) popG := ⟨_, _, PySem.F.slot_list_pop, PySem.F.type_list_pop, mt_pop, mu_pop⟩
theorem m_popAt : MutR X "pop" (fun F _ => RepL X.K F) popAtG := ⟨_, _, PySem.F.slot_list_pop, PySem.F.type_list_pop, mt_popAt, mu_popAt⟩
theorem m_ins : MutR X "insert" (fun F _ => RepL X.K F) insG := ⟨_, _, PySem.F.slot_list_insert, PySem.F.type_list_insert, mt_insert, mu_ins⟩
theorem m_ext : MutR X "extend" (RepBL X.K) extG := ⟨_, _, PySem.F.slot_list_extend, PySem.F.type_list_extend, mt_extend, mu_ext⟩
theorem ev_m (mr : MutR X m (fun F _ => RepL X.K F) g) (ae : allEx (oa :: as)) (ho : PE X o (tVar i)) (ha : PA X (a :: es) (tArs X.K (oa :: as)))
    (hbase : attributeBase o m X.env (eval o X.env) = eval o X.env)
    (hfew : ((backTo cpos (starEach (a :: es) X.env)).all (fun x => !x.1) && (backToKw cpos (keywordEach [] X.env)).all (fun x => x.1.isSome)
      && decide ((a :: es).length + ([] : List Keyword).length + (if ([] : List Keyword).isEmpty then 0 else 1) < 30)) = true)
    (hline : (apos.endLine == cpos.line) = true) (hs : starEach (a :: es) X.env = (false, eval a X.env) :: starEach es X.env) (hplain : (backTo cpos (starEach es X.env)).any (·.1) = false) :
    PE X (.Call (.Attribute o m apos) (a :: es) [] cpos) (tEv X.K (xMut i g (oa :: as))) := by
  obtain ⟨id, r, h1, h2, h3, h4⟩ := mr.ok
  exact ev_mut ae (pe_bm PySem.F.plainAttrs_list h1 h2 h3 ho ha hbase hfew hline hs hplain) h4
theorem ev_mB (mr : MutR X m (RepBL X.K) g) (ho : PE X o (tVar i)) (ha : PA X (a :: es) (tArs X.K (oa :: as)))
    (hbase : attributeBase o m X.env (eval o X.env) = eval o X.env)
    (hfew : ((backTo cpos (starEach (a :: es) X.env)).all (fun x => !x.1) && (backToKw cpos (keywordEach [] X.env)).all (fun x => x.1.isSome)
      && decide ((a :: es).length + ([] : List Keyword).length + (if ([] : List Keyword).isEmpty then 0 else 1) < 30)) = true)
    (hline : (apos.endLine == cpos.line) = true) (hs : starEach (a :: es) X.env = (false, eval a X.env) :: starEach es X.env) (hplain : (backTo cpos (starEach es X.env)).any (·.1) = false) :
    PE X (.Call (.Attribute o m apos) (a :: es) [] cpos) (tEv X.K (xMut i g (oa :: as))) := by
  obtain ⟨id, r, h1, h2, h3, h4⟩ := mr.ok
  exact ev_mutB (pe_bm PySem.F.plainAttrs_list h1 h2 h3 ho ha hbase hfew hline hs hplain) h4
theorem ev_m0 (mr : MutR X m (fun F _ => RepL X.K F) g) (ho : PE X o (tVar i))
    (hbase : attributeBase o m X.env (eval o X.env) = eval o X.env) (hline : (apos.endLine == cpos.line) = true) :
    PE X (.Call (.Attribute o m apos) [] [] cpos) (tEv X.K (xMut i g [])) := by
  obtain ⟨id, r, h1, h2, h3, h4⟩ := mr.ok
  exact ev_mut0 (pe_bm0 PySem.F.plainAttrs_list h1 h2 h3 ho hbase hline) h4
end

/-! ### x[i] = e; x op= e -/
@[simp] def sSt (i : Nat) (fi fe : SE) : SS := fun env => match fe env with
  | some (v, e1) => match e1[i]? with
    | some (.ow (.lst _)) => match fi e1 with
      | some (.int k, e2) => match e2[i]? with
        | some (.ow (.lst xs)) => match ixN xs.length k with
          | some j => some (.nx (e2.set i (.ow (.lst (xs.set j v)))))
          | none => none
        | _ => none
      | _ => none
    | _ => none
  | none => none
@[simp] def sAug (i : Nat) (g : PV → PV → Option PV) (fe : SE) : SS := fun env => match env[i]? with
  | some (.fr v) => match fe env with
    | some (w, e) => match g v w with
      | some r => some (.nx (e.set i (.fr r)))
      | none => none
    | none => none
  | _ => none
@[simp] def augP : PV → PV → Option PV
  | .int a, .int b => some (.int (a + b))
  | .str a, .str b => if a.length + b.length ≤ sizeLine then some (.str (a ++ b)) else none
  | _, _ => none
section
variable {X : Cx} {o e ie : Expr} {i : Nat} {fi fe : SE} {pos p2 : Pos} {x : Str} {op : Operator} {g : PV → PV → Option PV}
theorem st_sub (ho : PE X o (tVar i)) (hi : PE X ie (tEv X.K fi)) (he : PE X e (tEv X.K fe))
    (ha : ∀ v, assign (.Subscript o ie p2) X.env v = (do
      let ov ← holding [v] (eval o X.env)
      let iv ← holding [v, ov] (eval ie X.env)
      standAt p2
      holding [v, ov, iv] (setItem ov iv v)
      release [v, ov, iv] []))
    (hs : swapsWithSole [.Subscript o ie p2] e pos.line X.env = pure false) (hw : swappedStores [.Subscript o ie p2] e X.env = pure none)
    (h1 : (assignEach [.Subscript o ie p2] X.env).map (·.2) = [assign (.Subscript o ie p2) X.env]) : PS X (.Assign [.Subscript o ie p2] e pos) (tSv X.K (sSt i fi fe)) := PS.imp (ps_asg he (pg_sub ho hi set_list ha) hs hw h1) fun D σ H q => by
  obtain ⟨F0, H0, env, F, fl, S, e, k⟩ := q
  unfold sSt at e
  split at e
  · rename_i v e1 ef
    split at e
    · rename_i ys ey
      split at e
      · rename_i kk e2 ei
        split at e
        · rename_i xs ex
          split at e
          · rename_i j ej
            cases e
            refine ⟨F0, H0, env, F, v, e1, S, ef, fun x F1 H1 S1 s1 rv => ?_⟩
            obtain ⟨l, us, q1, _, _, _⟩ := S1.lstAt ey
            refine ⟨.ref l, q1, F0, H0, e1, F1, .int kk, e2, S1, ei, fun y F2 H2 S2 s2 ry => ?_⟩
            cases (show y = .int kk from ry)
            obtain ⟨l', us', q1', q2, q3, q4⟩ := S2.lstAt ex
            rw [q1] at q1'
            cases q1'
            refine ⟨l, us', kk, j, rfl, rfl, q3, by rw [← q4.length]; exact ej, ?_⟩
            exact k σ F2 _ (S2.mutL ex q1 (q4.set j (rv.mono s2))) (s1.trans s2)
          · cases e
        · cases e
      · cases e
    · cases e
  · cases e
structure AugR (X : Cx) (op : Operator) (g : PV → PV → Option PV) : Prop where
  ok : ∃ t : TIp, PIp X op t ∧ ∀ (F H : Hp) (p q c : PV) (x y : V) (Q : VK), Rep X.K F p x → Rep X.K F q y → g p q = some c → (∀ z, Rep X.K F c z → Q z H) → t x y H Q
theorem a_add : AugR X .Add augP := ⟨fun x y H Q => ipI (fun i j => i + j) x y H Q ∨ ∃ i j, x = .str i ∧ y = .str j ∧ i.length + j.length ≤ sizeLine ∧ Q (.str (i ++ j)) H, fun pins s σ H x y v u Q I r1 r2 h => by
    rcases h with h | h
    · exact ip_add pins s σ H x y v u Q I r1 r2 h
    · exact iop_add_str pins s σ H x y v u Q I r1 r2 h, fun F H p q c x y Q rx ry eg k => by
    unfold augP at eg
    split at eg
    · cases eg
      exact .inl ⟨_, _, rx, ry, k _ rfl⟩
    · split at eg
      · rename_i hz
        cases eg
        exact .inr ⟨_, _, rx, ry, by rw [mkS_len, mkS_len]; exact hz, k _ (by show V.str _ = V.str _; rw [mkS_app])⟩
      · cases eg
    · cases eg⟩
theorem a_sub : AugR X .Sub subP := ⟨ipI fun i j => i - j, ip_sub, fun F H p q c x y Q rx ry eg k => by
    unfold subP at eg
    split at eg
    · cases eg
      exact ⟨_, _, rx, ry, k _ rfl⟩
    · cases eg⟩
theorem st_aug (ar : AugR X op g) (hN : X.N.Nodup) (hi : X.N[i]? = some x) (hx : Loc X.env.scope x) (he : PE X e (tEv X.K fe)) (hf : X.fn x = true ∨ X.env.scope.names.lookup x = some .local) :
    PS X (.AugAssign (.Name x p2) op e pos) (tSv X.K (sAug i g fe)) := by
  obtain ⟨t, h1, h2⟩ := ar.ok
  refine PS.imp (ps_aug hN hi hx he h1 hf) fun D σ H q => ?_
  obtain ⟨F0, H0, env, F, fl, S, e, k⟩ := q
  unfold sAug at e
  split at e
  · rename_i v ev
    split at e
    · rename_i w e1 ef
      split at e
      · rename_i r eg
        cases e
        obtain ⟨x, q1, q2⟩ := S.fr i v ev
        refine ⟨x, q1, F0, H0, env, F, w, e1, S, ef, fun y F' H' S' sf ry => ?_⟩
        exact h2 F' H' v w r x y _ (q2.mono sf) ry eg fun z rz => k _ F' H' (S'.setFr i rz) sf
      · cases e
    · cases e
  · cases e
end

/-! ### calls of defs -/
def spV (K : PySem.W.Frag) (n : Nat) (g : List PV → Option PV) : Sp := fun vs H Q _ => vs.length = n ∧ ∃ F args r, Same F H ∧ (∀ a o, F a = some o → isTbl o = false) ∧ RepL K F args vs ∧ g args = some r ∧ ∀ x F' H', HR F H F' H' → Rep K F' r x → Q x H'
theorem HR.gr' {F H F' H' : Hp} (h : HR F H F' H') : Gr F H F' H' := ⟨h.f0, h.h0, h.fh, fun a o e _ => h.nt a o e, h.fnew⟩
section
variable {X : Cx} {CX : CXT} {k : Nat} {f : Addr} {fd : FuncData} {ps : List Str} {n : Nat} {g : List PV → Option PV} {x : Str} {e : Expr} {es : List Expr} {a : Ar} {as : List Ar} {p pos : Pos}
theorem call_ok {K : PySem.W.Frag} {E : XK} (ae : allEx as) : ∀ σ H Q, (∀ vs e env, xArgs as env = some (vs, e) → vs.length = n) → tEv K (xN g as) σ H Q → tCall (spV K n g) [] E (tArs K as) σ H Q := fun σ H Q hn q => by
  obtain ⟨F0, H0, env, F, c, env', S, e, k⟩ := q
  obtain ⟨vs, ea, eg⟩ := xN_def e
  refine exs_ok as ae S ea fun xs F' H' S' sf rs => ?_
  rw [List.append_nil]
  refine ⟨by rw [← rs.length]; exact hn vs env' env ea, F', vs, c, S'.fh, S'.nt, rs, eg, fun y F2 H2 hr ry => ?_⟩
  exact k y F2 H2 (S'.gr hr.gr') (sf.trans hr.f0) ry
theorem xArgs_len : ∀ (as : List Ar) {env e : Env} {vs : List PV}, xArgs as env = some (vs, e) → vs.length = as.length
  | [], _, _, _, h => by cases h; rfl
  | .ex f :: r, _, _, _, h => by
    unfold xArgs at h
    split at h
    · split at h
      · rename_i er
        cases h
        rw [List.length_cons, List.length_cons, xArgs_len r er]
      · cases h
    · cases h
  | .bor i :: r, _, _, _, h => by
    unfold xArgs at h
    split at h
    · split at h
      · rename_i er
        split at h
        · cases h
          rw [List.length_cons, List.length_cons, xArgs_len r er]
        · cases h
      · cases h
    · cases h
theorem ev_call (F : FnOk X.prog X.w X.K X.mg X.base CX k f fd ps (spV X.K (as.length + 1) g)) (hr : Room k X.A) (hg : Gl X x) (hm : X.mg x = some (.ref f)) (hk : PySem.W.keepIn X.K (.ref f) = true) (hb : Binds X.K fd ps []) (hx : Passes CX X E0)
    (ae : allEx (a :: as)) (ha : PA X (e :: es) (tArs X.K (a :: as))) (hdb : (x == ("__debug__" : Str)) = false) (he : starEach (e :: es) X.env = (false, eval e X.env) :: starEach es X.env) (hpl : (backTo pos (starEach es X.env)).any (·.1) = false) :
    PE X (.Call (.Name x p) (e :: es) [] pos) (tEv X.K (xN g (a :: as))) := PE.imp (pe_call F hr hg hm hk hb .nil hx ha hdb he hpl) fun σ H Q q => call_ok ae σ H Q (fun vs e env h => xArgs_len _ h) q
theorem ev_call0 (F : FnOk X.prog X.w X.K X.mg X.base CX k f fd ps (spV X.K 0 g)) (hr : Room k X.A) (hg : Gl X x) (hm : X.mg x = some (.ref f)) (hk : PySem.W.keepIn X.K (.ref f) = true) (hb : Binds X.K fd ps []) (hx : Passes CX X E0)
    (hdb : (x == ("__debug__" : Str)) = false) : PE X (.Call (.Name x p) [] [] pos) (tEv X.K (xN g [])) := PE.imp (pe_call0 F hr hg hm hk hb .nil hx hdb) fun σ H Q q => call_ok (as := []) trivial σ H Q (fun vs e env h => xArgs_len _ h) q
end
def runDef (nN : Nat) (f : SS) (args : List PV) : Option PV := match f (args.map .fr ++ List.replicate (nN - args.length) .none) with
  | some (.rt v) => some v
  | some (.nx _) => some .non
  | _ => none
theorem start_sr {K : PySem.W.Frag} {F H : Hp} {N : List Str} {args : List PV} {vs : List V} (sf : Same F H) (nt : ∀ a o, F a = some o → isTbl o = false) (r : RepL K F args vs) (hl : vs.length ≤ N.length) :
    SR K F H (args.map Slot.fr ++ List.replicate (N.length - args.length) .none) F (L2.start N vs) H where
  f0 := Same.refl F
  h0 := Kp.refl H
  fh := sf
  nt := nt
  fnew := fun a o h n => by rw [n] at h; cases h
  len := by simp [L2.start, r.length]
  fr := fun i v e => by
    rw [List.getElem?_append] at e
    split at e
    · rename_i hi
      rw [List.getElem?_map] at e
      cases q : args[i]? with
      | none => rw [q] at e; cases e
      | some p =>
        rw [q] at e
        cases e
        obtain ⟨x, h1, h2⟩ := r.get q
        refine ⟨x, ?_, h2⟩
        unfold L2.start
        rw [List.getElem?_append_left (by simpa [← r.length] using hi), List.getElem?_map, h1]
        rfl
    · rw [List.getElem?_replicate] at e
      split at e
      · cases e
      · cases e
  ow := fun i v e => by
    rw [List.getElem?_append] at e
    split at e
    · rw [List.getElem?_map] at e
      cases q : args[i]? with
      | none => rw [q] at e; cases e
      | some p => rw [q] at e; cases e
    · rw [List.getElem?_replicate] at e
      split at e
      · cases e
      · cases e
  dj := fun i j v w a e => by
    rw [List.getElem?_append] at e
    split at e
    · rw [List.getElem?_map] at e
      cases q : args[i]? with
      | none => rw [q] at e; cases e
      | some p => rw [q] at e; cases e
    · rw [List.getElem?_replicate] at e
      split at e
      · cases e
      · cases e
section
variable {P : Program} {w : World} {K : PySem.W.Frag} {mg : Str → Option Value} {base : Heap}
theorem fn_ok {x qual : Str} {st : Stmt} {f : Addr} {fd : FuncData} {N ps : List Str} {k : Nat} {body : SS} (F : Fun K x qual st f fd) (S : FnScope N ps (defScope st))
    (hbody : ∀ (cdv : Value) (A : Around) (outer : List PySem.Env) (s : Shared) (H : Hp) (E : XK), Room k (A.deeper (envOfC qual (defScope st) s.heap.objs.size f cdv)) →
      PSs (cxOf CX0 P w K mg base N qual (defScope st) f cdv A outer s H E).nox (defBody st) (tSv K body)) : FnOk P w K mg base CX0 (k + 1) f fd ps (spV K ps.length (runDef N.length body)) := by
  refine F.ok S (fun vs H Q E h => h.1) fun cdv A outer s H vs Q E hr h => ⟨_, hbody cdv A outer s H E hr, ?_⟩
  obtain ⟨hl, F1, args, r, sf, nt, ra, eg, kk⟩ := h
  have hpl : ps.length ≤ N.length := by have := congrArg List.length S.pre; rw [List.length_take] at this; omega
  unfold runDef at eg
  split at eg
  · rename_i v eb
    cases eg
    exact ⟨F1, H, _, F1, .rt r, start_sr sf nt ra (by omega), eb, fun y F' H' hr' _ ry => kk y F' H' hr' ry⟩
  · rename_i e1 eb
    cases eg
    exact ⟨F1, H, _, F1, .nx e1, start_sr sf nt ra (by omega), eb, fun σ' F' H' S' _ => kk .non F' H' S'.toHR rfl⟩
  · cases eg
theorem FnOk.congr {f : Addr} {fd : FuncData} {ps : List Str} {k n : Nat} {g g' : List PV → Option PV} (h : FnOk P w K mg base CX0 k f fd ps (spV K n g)) (e : ∀ args r, g' args = some r → g args = some r) : FnOk P w K mg base CX0 k f fd ps (spV K n g') :=
  h.imp fun vs H Q E ⟨hl, F, args, r, a, b, c, d, q⟩ => ⟨hl, F, args, r, a, b, c, e _ _ d, q⟩
end
end Pv
/-! isinstance of built-in types; sorted of data. -/
namespace Pv
open PySem PySem.Spec PyProof.Rows L2

/-! ### isinstance -/
@[simp] def tyN : PV → Option String
  | .non => some "NoneType"
  | .bl _ => some "bool"
  | .int _ => some "int"
  | .str _ => some "str"
  | .tup _ => some "tuple"
  | .lst _ => some "list"
  | _ => none
@[simp] def isSub (n T : String) : Bool := n == T || (n == "bool" && T == "int")
@[simp] def isiP (T : String) (p : PV) : Option PV := match tyN p with
  | some n => some (.bl (isSub n T))
  | none => none
theorem kit_int {K : PySem.W.Frag} {n : String} (h : n = "NoneType" ∨ n = "bool" ∨ n = "int" ∨ n = "str" ∨ n = "tuple" ∨ n = "list") : PySem.W.kitOne K (.type n) (.type "int") = some (isSub n "int") := by
  rcases h with rfl | rfl | rfl | rfl | rfl | rfl <;> kernel_rfl
theorem kit_bool {K : PySem.W.Frag} {n : String} (h : n = "NoneType" ∨ n = "bool" ∨ n = "int" ∨ n = "str" ∨ n = "tuple" ∨ n = "list") : PySem.W.kitOne K (.type n) (.type "bool") = some (isSub n "bool") := by
  rcases h with rfl | rfl | rfl | rfl | rfl | rfl <;> kernel_rfl
theorem kit_str {K : PySem.W.Frag} {n : String} (h : n = "NoneType" ∨ n = "bool" ∨ n = "int" ∨ n = "str" ∨ n = "tuple" ∨ n = "list") : PySem.W.kitOne K (.type n) (.type "str") = some (isSub n "str") := by
  rcases h with rfl | rfl | rfl | rfl | rfl | rfl <;> kernel_rfl
theorem kit_tup {K : PySem.W.Frag} {n : String} (h : n = "NoneType" ∨ n = "bool" ∨ n = "int" ∨ n = "str" ∨ n = "tuple" ∨ n = "list") : PySem.W.kitOne K (.type n) (.type "tuple") = some (isSub n "tuple") := by
  rcases h with rfl | rfl | rfl | rfl | rfl | rfl <;> kernel_rfl
theorem kit_lst {K : PySem.W.Frag} {n : String} (h : n = "NoneType" ∨ n = "bool" ∨ n = "int" ∨ n = "str" ∨ n = "tuple" ∨ n = "list") : PySem.W.kitOne K (.type n) (.type "list") = some (isSub n "list") := by
  rcases h with rfl | rfl | rfl | rfl | rfl | rfl <;> kernel_rfl
theorem tyN_of {K : PySem.W.Frag} {F H : Hp} {p : PV} {x : V} {n : String} (sf : Same F H) (r : RepB K F H p x) (e : tyN p = some n) : TyX K H x (.type n) ∧ (n = "NoneType" ∨ n = "bool" ∨ n = "int" ∨ n = "str" ∨ n = "tuple" ∨ n = "list") := by
  cases p with
  | non => cases (show x = .non from r); cases e; exact ⟨.base .non, by simp⟩
  | bl b => cases (show x = .bl b from r); cases e; exact ⟨.base (.bl b), by simp⟩
  | int b => cases (show x = .int b from r); cases e; exact ⟨.base (.int b), by simp⟩
  | str b => cases (show x = .str (mkS b) from r); cases e; exact ⟨.base (.str _), by simp⟩
  | tup xs =>
    obtain ⟨a, vs, rfl, h1, _⟩ := r
    cases e
    refine ⟨?_, by simp⟩
    rcases h1 with (h1 | ⟨o, h1⟩) | ⟨o, its, m, h1, h2, _⟩
    · exact .base (.tup (sf _ _ h1))
    · exact .fTuple (sf _ _ h1)
    · exact .kTuple h1 h2
  | lst xs =>
    obtain ⟨a, vs, rfl, h1, _⟩ := r
    cases e
    exact ⟨.base (.lst h1), by simp⟩
  | dic _ _ => cases e
  | set _ => cases e
  | scr _ => cases e
/-- a built-in type's name: int, bool, str, tuple, list -/
structure TyR (X : Cx) (T : Str) (n : String) : Prop where
  hn : T ≠ "__name__"
  hdb : (T == ("__debug__" : Str)) = false
  ok : bootBuiltins T = some (.type n) ∧ ∀ m, (m = "NoneType" ∨ m = "bool" ∨ m = "int" ∨ m = "str" ∨ m = "tuple" ∨ m = "list") → PySem.W.kitOne X.K (.type m) (.type n) = some (isSub m n)
section
variable {X : Cx} {a : Expr} {oa : Ar} {T : Str} {n : String} {p p2 pos : Pos}
theorem t_int : TyR X "int" "int" := ⟨by decide, by decide, boot_int, fun _ => kit_int⟩
theorem t_bool : TyR X "bool" "bool" := ⟨by decide, by decide, boot_bool, fun _ => kit_bool⟩
theorem t_str : TyR X "str" "str" := ⟨by decide, by decide, boot_str, fun _ => kit_str⟩
theorem t_tup : TyR X "tuple" "tuple" := ⟨by decide, by decide, boot_tuple, fun _ => kit_tup⟩
theorem t_lst : TyR X "list" "list" := ⟨by decide, by decide, boot_list, fun _ => kit_lst⟩
theorem ev_isi (tr : TyR X T n) (hg : Gl X "isinstance") (hm : X.mg "isinstance" = none) (hgT : Gl X T) (hmT : X.mg T = none) (ha : PE X a (tAr X.K oa))
    (he : starEach [a, .Name T p2] X.env = (false, eval a X.env) :: starEach [.Name T p2] X.env) (he2 : starEach [.Name T p2] X.env = (false, eval (.Name T p2) X.env) :: starEach [] X.env)
    (hpl : (backTo pos (starEach [.Name T p2] X.env)).any (·.1) = false) :
    PE X (.Call (.Name "isinstance" p) [a, .Name T p2] [] pos) (tEv X.K (x1 (isiP n) oa)) := PE.imp (pe_callB call_isi hg hm boot_isinstance (pa_cons ha (pa_cons (pe_bltn (v := .ty n) hgT hmT tr.ok.1 rfl tr.hn tr.hdb) pa_nil he2) he) (by decide) (by decide) he hpl) fun σ H Q q => by
  obtain ⟨F0, H0, env, F, c, env', S, e, k⟩ := q
  obtain ⟨v, ea, eg⟩ := x1_def e
  refine args_ok [oa] (Q := on1 (fun x H Q => rIsi X.K [x, .ty n] H Q) Q) S ea fun xs F' H' S' sf rs => ?_
  obtain ⟨x, t, rfl, rx, rfl⟩ := rs
  unfold isiP at eg
  split at eg
  · rename_i m em
    cases eg
    obtain ⟨h1, h2⟩ := tyN_of S'.fh rx em
    exact ⟨x, .ty n, .type m, .type n, isSub m n, rfl, .ty n, h1, tr.ok.2 m h2, k _ F' H' S' sf rfl⟩
  · cases eg
end

/-! ### sorted -/
def sItems : PV → Option (List PV)
  | .lst xs => some xs
  | .tup xs => some xs
  | .str l => if l.length ≤ sizeLine then some (l.map fun c => .str [c]) else none
  | _ => none
/-- what Python can sort here: data alike -/
def SortOk (bs : List PV) : Prop := plnL bs = true ∧ PySem.W.AllAlike (bs.map toD) ∧ PySem.W.Sortable (bs.map toD) ∧ depL bs ≤ 64
open Classical in
noncomputable def sortP : List PV → Option PV
  | [p] => match sItems p with
    | some bs => if SortOk bs then some (.lst (bs.mergeSort (PySem.W.dataLe false toD))) else none
    | none => none
  | _ => none
def rSortV (K : PySem.W.Frag) : List V → Hp → VK → Prop := fun xs H Q => ∃ (x : V) (F : Hp) (bs : List PV), xs = [x] ∧ Same F H ∧ SortOk bs ∧
  ((∃ a vs, x = .ref a ∧ H a = some (.lst vs) ∧ RepL K F bs vs) ∨ (∃ a vs, x = .ref a ∧ SqT K H a vs ∧ RepL K F bs vs) ∨ ∃ l, x = .str (mkS l) ∧ l.length ≤ sizeLine ∧ bs = l.map fun c => .str [c]) ∧
  ∀ vs' p, H p = none → RepL K F (bs.mergeSort (PySem.W.dataLe false toD)) vs' → Q (.ref p) (upd H p (.lst vs'))
theorem toDs_map : ∀ bs : List PV, toDs bs = bs.map toD
  | [] => rfl
  | x :: xs => by rw [toDs, toDs_map xs]; rfl
theorem plnL_mem {bs : List PV} (h : plnL bs = true) : ∀ b ∈ bs, pln b = true := by
  induction bs with
  | nil => intro b hb; cases hb
  | cons x xs ih =>
    have h' := Bool.and_eq_true_iff.mp h
    intro b hb
    rcases List.mem_cons.mp hb with e | e
    · rw [e]; exact h'.1
    · exact ih h'.2 b e
theorem depL_mem : ∀ {bs : List PV} {b : PV}, b ∈ bs → dep b ≤ depL bs
  | x :: xs, b, h => by
    rw [depL]
    rcases List.mem_cons.mp h with e | e
    · rw [e]; omega
    · have := depL_mem e; omega
section
variable {X : Cx} {pins : List (Addr × Obj)} {σ : L2.St} {H : Hp} {s : Shared}
/-- what a value stands for -/
def RV (K : PySem.W.Frag) (F : Hp) : Value → PV → Prop := fun u p => ∃ v, RelV v u ∧ Rep K F p v
theorem each_rv {K : PySem.W.Frag} {F : Hp} : ∀ {bs : List PV} {vs : List V} {us : List Value}, RepL K F bs vs → Vals vs us → PySem.W.EachIs (RV K F) us bs
  | [], _, _, h, r => by cases h; cases r; exact .nil
  | b :: bs, _, _, h, r => by
    obtain ⟨v, t, rfl, h1, h2⟩ := h
    cases r with
    | cons r1 r2 => exact .cons ⟨v, r1, h1⟩ (each_rv h2 r2)
theorem rv_each {K : PySem.W.Frag} {F : Hp} : ∀ {bs : List PV} {us : List Value}, PySem.W.EachIs (RV K F) us bs → ∃ vs, RepL K F bs vs ∧ Vals vs us
  | _, _, .nil => ⟨[], rfl, .nil⟩
  | _, _, .cons ⟨v, r1, h1⟩ t => by
    obtain ⟨vs, h2, r2⟩ := rv_each t
    exact ⟨v :: vs, ⟨v, vs, rfl, h1, h2⟩, .cons r1 r2⟩
theorem each_reads (I : Inv X pins σ H s) {F : Hp} (sf : Same F H) : ∀ {bs : List PV} {us : List Value}, plnL bs = true → PySem.W.EachIs (RV X.K F) us bs → PySem.W.EachIs (fun v b => ∃ as, Reads s.heap v (toD b) as) us bs
  | _, _, _, .nil => .nil
  | _, _, h, .cons ⟨v, r1, h1⟩ t => by
    have h' := Bool.and_eq_true_iff.mp h
    exact .cons (Dp.reads I _ v _ (Rep.dp _ v h'.1 (h1.mono sf)) r1) (each_reads I sf h'.2 t)
/-- sorted's back: a new list of the values, then list.sort -/
theorem sort_back {A : Around} {F : Hp} {bs : List PV} {us : List Value} {Q : VK} {vs : List V} {E : Value → Shared → Prop} (I : Inv X pins σ H s) (hu : A.units + 70 < cLine) (sf : Same F H) (so : SortOk bs) (ra : RepL X.K F bs vs) (rv : Vals vs us) (hz : us.length ≤ sizeLine)
    (q : ∀ vs' p, H p = none → RepL X.K F (bs.mergeSort (PySem.W.dataLe false toD)) vs' → Q (.ref p) (upd H p (.lst vs'))) :
    wpAny (model X.prog X.w) A (newList us >>= fun l => holding [l] (call (.builtin "list.sort") [l] []) >>= fun _ => ret l) (fun fin s' => ∃ v, fin = .done (.ret v) ∧ EP X pins σ Q v s') E s := by
  refine wpAny_bind (wpAny_newList ?_ hz)
  have hoL : (s.heap.push (seqObj "list" us.toArray 0)).get? s.heap.objs.size = some (seqObj "list" us.toArray 0) := Heap.get?_push_size _ rfl
  show wpAny _ _ _ _ _ { s with heap := s.heap.push (seqObj "list" us.toArray 0) }
  have I1 : Inv X pins σ H { s with heap := s.heap.push (seqObj "list" us.toArray 0) } := I.kept (t' := s.toks) fun b o e => Heap.get?_push_of_some _ e
  have e := each_rv ra rv
  have hlu : us.length = bs.length := by rw [ra.length, rv.length]
  have old : ∀ b o, s.heap.get? b = some o → (PySem.W.sortingHeap (s.heap.push (seqObj "list" us.toArray 0)) s.heap.objs.size us).get? b = some o := fun b o h => by
    rw [PySem.W.sortingHeap_old (Nat.ne_of_lt (Heap.lt_size h)) (Heap.get?_push_of_some _ h)]
  have er : PySem.W.EachIs (fun v b => ∃ as, Reads (PySem.W.sortingHeap (s.heap.push (seqObj "list" us.toArray 0)) s.heap.objs.size us) v (toD b) as) us bs :=
    (each_reads I sf so.1 e).mono fun _ _ ⟨as, r⟩ => ⟨as, PyProof.Rows.Reads.keeps old r⟩
  have hd : ∀ d, d ∈ bs.map toD → A.in1.units + d.depth < cLine := fun d hd => by
    obtain ⟨b, hb, rfl⟩ := List.mem_map.mp hd
    have h1 := toD_dep b
    have h2 := depL_mem hb
    have h3 := so.2.2.2
    show A.units + 1 + (toD b).depth < cLine
    omega
  have SA := PySem.W.SortsAt.data (prog := X.prog) (w := X.w) (A := A.in1) (s := { s with heap := PySem.W.sortingHeap (s.heap.push (seqObj "list" us.toArray 0)) s.heap.objs.size us }) (PySem.W.each_map (R := fun v d => ∃ as, Reads (PySem.W.sortingHeap (s.heap.push (seqObj "list" us.toArray 0)) s.heap.objs.size us) v d as) toD er) so.2.1 so.2.2.1 hd
  refine wpAny_bind (wpAny_holding (wpAny_call_entry_kw PyProof.Rows.slot_list_sort ⟨_, hoL, rfl⟩ PyProof.Rows.entry_list_sort (PySem.W.list_sort_vals (s := { s with heap := s.heap.push (seqObj "list" us.toArray 0) }) hoL SA hz ⟨.none, rfl, ?_⟩) (PyProof.Rows.args_list_sort _)))
  have out := PySem.W.sortVals_data (enc := toD) false e er so.2.1
  obtain ⟨vs', r1, r2⟩ := rv_each out
  obtain ⟨ep, he'⟩ := PyProof.Rows.sortedHeap_at (vs := us) (out := (PySem.W.sortVals (PySem.W.dataKind (PySem.W.sortingHeap (s.heap.push (seqObj "list" us.toArray 0)) s.heap.objs.size us) (bs.map toD)) false us us).toArray) hoL
  have hlen : vs'.length ≤ sizeLine := by
    rw [← r1.length, List.length_mergeSort, ← hlu]; exact hz
  refine wpAny_pure ⟨_, rfl, .ref s.heap.objs.size, upd H s.heap.objs.size (.lst vs'), I.laid (t' := s.toks) (fun b u e => ?_) (Nat.le_refl _)
    (show ObjOk X.prog X.w _ _ _ (.lst vs') from ⟨hlen, _, ep, r2, he'⟩), rfl, q vs' _ (I.hok.fresh (Nat.le_refl _)) r1⟩
  have hb : b < s.heap.objs.size := Heap.lt_size e
  rw [PyProof.Rows.sortedHeap_old (Nat.ne_of_lt hb) (by rw [size_push']; exact Nat.lt_succ_of_lt hb)]
  exact Heap.get?_push_of_some _ e
theorem vals_signs : ∀ (l : List Nat) (us : List Value), us.length = l.length → (∀ (j : Nat) (v : Value), us[j]? = some v → ∃ (c : Nat) (t : Tok), l[j]? = some c ∧ v = Value.str ⟨#[c]⟩ t) → Vals (l.map fun c => V.str (mkS [c])) us
  | [], [], _, _ => .nil
  | c :: l, u :: us, hl, h => by
    obtain ⟨d, t, e1, e2⟩ := h 0 u rfl
    have e3 : c = d := by simpa using e1
    subst e3 e2
    exact .cons ⟨t, rfl⟩ (vals_signs l us (by simpa using hl) fun j v e => by simpa using h (j + 1) v (by simpa using e))
  | [], _ :: _, hl, _ => by simp at hl
  | _ :: _, [], hl, _ => by simp at hl
theorem repL_signs {K : PySem.W.Frag} {F : Hp} : ∀ (l : List Nat), RepL K F (l.map fun c => PV.str [c]) (l.map fun c => V.str (mkS [c]))
  | [] => rfl
  | c :: l => ⟨_, _, rfl, rfl, repL_signs l⟩
theorem call_sortV (hc : X.calm = true) (hu : X.A.units + 100 < cLine) : CallR X (.builtin "sorted") (rSortV X.K) := by
  intro pins s σ H xs us Q I r q
  obtain ⟨x, F, bs, ex, sf, so, src, q⟩ := q
  subst ex
  obtain ⟨u, eu, rx⟩ := vals1 r
  subst eu
  refine Calls.call_function_entry PyProof.Rows.kind_sorted PyProof.Rows.plain_sorted PyProof.Rows.entry_sorted (PyProof.Rows.args_sorted1 _) ?_
  unfold Builtin.«sorted»
  refine wpAny_bind (m := checkCount "sorted" 1 1 _) (wpAny_pure ?_)
  have hu1 : X.A.in1.units + 70 < cLine := by show X.A.units + 1 + 70 < cLine; omega
  rcases src with ⟨a, vs, rfl, h1, h2⟩ | ⟨a, vs, rfl, h1, h2⟩ | ⟨l, rfl, hl, rfl⟩
  · cases rx
    obtain ⟨its, rv, ⟨o, n, ho, hcl, _, hd⟩, hz⟩ := I.list (SqL.of h1)
    have hlen := rv.length
    refine wpAny_bind (wpAny_collect_seq a (.inl rfl) ho hcl hd (fun h' hk => ?_) (by rw [List.size_toArray, ← hlen]; exact hz))
    have I1 : Inv X pins σ H { s with heap := h' } := I.kept (t' := s.toks) hk
    exact sort_back I1 hu1 sf so h2 rv (by rw [← hlen]; exact hz) q
  · cases rx
    obtain ⟨its, rv, ⟨o, ho, hcl, n, hd⟩, hz⟩ := I.tuple h1
    have hlen := rv.length
    refine wpAny_bind (wpAny_collect_seq a (.inr rfl) ho hcl hd (fun h' hk => ?_) (by rw [List.size_toArray, ← hlen]; exact hz))
    have I1 : Inv X pins σ H { s with heap := h' } := I.kept (t' := s.toks) hk
    exact sort_back I1 hu1 sf so h2 rv (by rw [← hlen]; exact hz) q
  · obtain ⟨t, rfl⟩ := rx
    refine wpAny_bind (wpAny_collect_str (A := X.A.in1) (show X.A.in1.handled = none from I.ok.hd hc) (mkS l) t (fun s' acc hk hg hdr hos hit => ?_) (by show (mkS l).length ≤ sizeLine; rw [mkS_len]; exact hl))
    obtain ⟨h', g', d', t', o'⟩ := s'
    cases hg
    cases hdr
    cases hos
    have I1 : Inv X pins σ H { s with heap := h', toks := t' } := I.kept (t' := t') hk
    have hla : acc.toList.length = l.length := by rw [Array.length_toList, hit.1]; show (mkS l).length = l.length; rw [mkS_len]
    refine sort_back I1 hu1 sf so (repL_signs l) (vals_signs l acc.toList hla fun j v e => ?_) (by rw [hla]; exact hl) q
    obtain ⟨c, t2, e1, e2⟩ := hit.2 j v (by rw [← Array.getElem?_toList]; exact e)
    exact ⟨c, t2, by simpa [mkS] using e1, e2⟩
theorem rn_sort {K : PySem.W.Frag} : RNNw K sortP (rSortV K) := fun F H ps c xs Q sf rs eg k => by
  unfold sortP at eg
  split at eg
  · rename_i p
    split at eg
    · rename_i bs eb
      split at eg
      · rename_i so
        cases eg
        obtain ⟨x, t, rfl, rx, rfl⟩ := rs
        refine ⟨x, F, bs, rfl, sf, so, ?_, fun vs' l hl rv => k l F _ (Gr.beside sf hl) hl (sf.free hl) ⟨vs', upd_same, rv⟩⟩
        unfold sItems at eb
        split at eb
        · cases eb
          obtain ⟨a, vs, rfl, h1, h2⟩ := rx
          exact .inl ⟨a, vs, rfl, h1, h2⟩
        · cases eb
          obtain ⟨a, vs, rfl, h1, h2⟩ := rx
          exact .inr (.inl ⟨a, vs, rfl, Same.sqT sf h1, h2⟩)
        · split at eb
          · rename_i hz
            cases eb
            exact .inr (.inr ⟨_, rx, hz, rfl⟩)
          · cases eb
        · cases eb
      · cases eg
    · cases eg
  · cases eg
theorem b_sort (hc : X.calm = true) (hu : X.A.units + 100 < cLine) : BltN X "sorted" sortP := ⟨by decide, by decide, _, _, boot_sorted, .inl ⟨_, rfl⟩, call_sortV hc hu, rn_sort⟩
end
/-! what sorted gives, by kinds -/
theorem sortOk_ints (ns : List Int) : SortOk (ns.map PV.int) := by
  refine ⟨?_, ?_, .inr ?_, ?_⟩
  · induction ns with
    | nil => rfl
    | cons n ns ih => simp [plnL, pln, ih]
  · intro d hd d' hd'
    simp only [List.map_map, List.mem_map, Function.comp] at hd hd'
    obtain ⟨a, _, rfl⟩ := hd
    obtain ⟨b, _, rfl⟩ := hd'
    rfl
  · intro d hd
    simp only [List.map_map, List.mem_map, Function.comp] at hd
    obtain ⟨a, _, rfl⟩ := hd
    exact ⟨fun z => (by cases z), fun xs z => (by cases z)⟩
  · have : depL (ns.map PV.int) = 0 := by
      induction ns with
      | nil => rfl
      | cons n ns ih => simp [depL, dep, ih]
    omega
theorem sort_ints (ns : List Int) : (ns.map PV.int).mergeSort (PySem.W.dataLe false toD) = (ns.mergeSort (fun a b => decide (a ≤ b))).map PV.int := by
  rw [← PySem.W.sort_maps (r := fun a b => decide (a ≤ b)) PV.int]
  intro a _ b _
  have := PySem.W.dataLe_int (fun x : Int => x)
  have h := congrFun (congrFun this a) b
  exact h.symm
@[simp] theorem sortP_lst (ns : List Int) : sortP [.lst (ns.map PV.int)] = some (.lst ((ns.mergeSort (fun a b => decide (a ≤ b))).map PV.int)) := by
  simp only [sortP, sItems, if_pos (sortOk_ints ns), sort_ints]
@[simp] theorem sortP_tup (ns : List Int) : sortP [.tup (ns.map PV.int)] = some (.lst ((ns.mergeSort (fun a b => decide (a ≤ b))).map PV.int)) := by
  simp only [sortP, sItems, if_pos (sortOk_ints ns), sort_ints]
end Pv
/-! Defs of the module: promises by name. -/
namespace L2
theorem Room.u100 {k : Nat} {A : PySem.Around} (r : Room k A) : A.units + 100 < PySem.cLine := by have := r.un; omega
end L2
namespace Pv
open PySem PySem.Spec PyProof.Rows L2
/-- the built-ins' names are not the module's -/
structure Blt (mg : Str → Option Value) : Prop where
  len : mg "len" = none
  int : mg "int" = none
  abs : mg "abs" = none
  min : mg "min" = none
  max : mg "max" = none
  all : mg "all" = none
  any : mg "any" = none
  sum : mg "sum" = none
  tuple : mg "tuple" = none
  list : mg "list" = none
  sorted : mg "sorted" = none
  range : mg "range" = none
  isinstance : mg "isinstance" = none
  bool : mg "bool" = none
  str : mg "str" = none
  enumerate : mg "enumerate" = none
  zip : mg "zip" = none
  set : mg "set" = none
  dict : mg "dict" = none
/-- a def of the module as it stands -/
structure Dd (K : PySem.W.Frag) (mg : Str → Option Value) (x : Str) (st : Stmt) (ps : List Str) : Prop where
  ok : ∃ f fd, Fun K x x st f fd ∧ mg x = some (.ref f) ∧ Binds K fd ps []
/-- what it promises -/
structure Pr (P : Program) (w : World) (K : PySem.W.Frag) (mg : Str → Option Value) (base : Heap) (x : Str) (k n : Nat) (g : List PV → Option PV) : Prop where
  ok : ∃ f fd ps, FnOk P w K mg base CX0 k f fd ps (spV K n g) ∧ mg x = some (.ref f) ∧ PySem.W.keepIn K (.ref f) = true ∧ Binds K fd ps []
section
variable {P : Program} {w : World} {K : PySem.W.Frag} {mg : Str → Option Value} {base : Heap} {x : Str} {st : Stmt} {N ps : List Str} {k : Nat} {body : SS}
theorem dd_mk {f : Addr} {fd : FuncData} (F : Fun K x x st f fd) (m : mg x = some (.ref f)) (b : Binds K fd ps []) : Dd K mg x st ps := ⟨f, fd, F, m, b⟩
theorem pr_ok (D : Dd K mg x st ps) (S : FnScope N ps (defScope st))
    (hbody : ∀ (f : Addr) (cdv : Value) (A : Around) (outer : List PySem.Env) (s : Shared) (H : Hp) (E : XK), Room k (A.deeper (envOfC x (defScope st) s.heap.objs.size f cdv)) →
      PSs (cxOf CX0 P w K mg base N x (defScope st) f cdv A outer s H E).nox (defBody st) (tSv K body)) : Pr P w K mg base x (k + 1) ps.length (runDef N.length body) := by
  obtain ⟨f, fd, F, m, b⟩ := D.ok
  exact ⟨f, fd, ps, fn_ok F S (hbody f), m, F.kp, b⟩
theorem pr_none (D : Dd K mg x st ps) : Pr P w K mg base x k ps.length (fun _ => none) := by
  obtain ⟨f, fd, F, m, b⟩ := D.ok
  exact ⟨f, fd, ps, ⟨fun vs H Q E h => h.1, fun A outer s H args us vs Q E _ _ _ _ h => by obtain ⟨_, _, _, _, _, _, _, z, _⟩ := h; cases z⟩, m, F.kp, b⟩
theorem Pr.congr {n : Nat} {g g' : List PV → Option PV} (h : Pr P w K mg base x k n g) (e : ∀ args r, g' args = some r → g args = some r) : Pr P w K mg base x k n g' := by
  obtain ⟨f, fd, ps, F, r⟩ := h.ok
  exact ⟨f, fd, ps, FnOk.congr F e, r⟩
end
section
variable {X : Cx} {x : Str} {k j : Nat} {g : List PV → Option PV} {e : Expr} {es : List Expr} {a : Ar} {as : List Ar} {p pos : Pos}
theorem ev_callP (G : Pr X.prog X.w X.K X.mg X.base x k (as.length + 1) g) (hr : Room j X.A) (hk : k ≤ j) (hg : Gl X x) (ae : allEx (a :: as)) (ha : PA X (e :: es) (tArs X.K (a :: as))) (hdb : (x == ("__debug__" : Str)) = false)
    (he : starEach (e :: es) X.env = (false, eval e X.env) :: starEach es X.env) (hpl : (backTo pos (starEach es X.env)).any (·.1) = false) : PE X (.Call (.Name x p) (e :: es) [] pos) (tEv X.K (xN g (a :: as))) := by
  obtain ⟨f, fd, ps, F, m, kp, b⟩ := G.ok
  exact ev_call F (hr.mono hk) hg m kp b pass0 ae ha hdb he hpl
theorem ev_callP0 (G : Pr X.prog X.w X.K X.mg X.base x k 0 g) (hr : Room j X.A) (hk : k ≤ j) (hg : Gl X x) (hdb : (x == ("__debug__" : Str)) = false) : PE X (.Call (.Name x p) [] [] pos) (tEv X.K (xN g [])) := by
  obtain ⟨f, fd, ps, F, m, kp, b⟩ := G.ok
  exact ev_call0 F (hr.mono hk) hg m kp b pass0 hdb
end
theorem sp_law {K : PySem.W.Frag} {g : List PV → Option PV} {H : Hp} {a : Addr} {ns : List Int} {Q : VK} {E : XK} (M : g [.scr ns] = some (.bl true)) (hS : SqL K H a (ns.map V.int)) (hQ : ∀ H', Q (.bl true) H') : spV K 1 g [.ref a] H Q E := by
  refine ⟨rfl, ?_⟩
  have fin : ∀ F : Hp, Same F H → (∀ a o, F a = some o → isTbl o = false) → SqL K F a (ns.map V.int) → ∃ F args r, Same F H ∧ (∀ a o, F a = some o → isTbl o = false) ∧ RepL K F args [.ref a] ∧ g args = some r ∧ ∀ x F' H', HR F H F' H' → Rep K F' r x → Q x H' :=
    fun F sf nt h => ⟨F, [.scr ns], .bl true, sf, nt, ⟨_, [], rfl, ⟨a, rfl, h⟩, rfl⟩, M, fun x F' H' _ r => by cases (show x = .bl true from r); exact hQ H'⟩
  have one : ∀ u : HO, H a = some u → isTbl u = false → Same (fun b => if b = a then some u else none) H ∧ ∀ b o, (fun b => if b = a then some u else none : Hp) b = some o → isTbl o = false := fun u hu tu => by
    refine ⟨fun b o h => ?_, fun b o h => ?_⟩
    · by_cases hb : b = a
      · subst hb; simp at h; rw [← h]; exact hu
      · simp [hb] at h
    · by_cases hb : b = a
      · simp [hb] at h; rw [← h]; exact tu
      · simp [hb] at h
  rcases hS with (h | ⟨o, h⟩) | h
  · obtain ⟨s1, s2⟩ := one _ h rfl
    exact fin _ s1 s2 (.inl (.inl (by simp)))
  · obtain ⟨s1, s2⟩ := one _ h rfl
    exact fin _ s1 s2 (.inl (.inr ⟨o, by simp⟩))
  · exact fin (fun _ => none) (fun _ _ h => by cases h) (fun _ _ h => by cases h) (.inr h)
theorem fn_law {P : Program} {w : World} {K : PySem.W.Frag} {mg : Str → Option Value} {base : Heap} {x : Str} {st : Stmt} {N ps : List Str} {k : Nat} {body : SS} {f : Addr} {fd : FuncData} (F : Fun K x x st f fd) (S : FnScope N ps (defScope st))
    (hbody : ∀ (f : Addr) (cdv : Value) (A : Around) (outer : List PySem.Env) (s : Shared) (H : Hp) (E : XK), Room k (A.deeper (envOfC x (defScope st) s.heap.objs.size f cdv)) →
      PSs (cxOf CX0 P w K mg base N x (defScope st) f cdv A outer s H E).nox (defBody st) (tSv K body)) : FnOk P w K mg base CX0 (k + 1) f fd ps (spV K ps.length (runDef N.length body)) := fn_ok F S (hbody f)
end Pv
/-! Loops over typed states; data compared. -/
namespace Pv
open PySem PySem.Spec PyProof.Rows L2

/-! ### loops -/
theorem forL_ex {α S : Type} (enc : α → PV) {g : SG} {b : SS} (st : S → Env) (I : S → List α → Prop)
    (hs : ∀ s x xs, I s (x :: xs) → ∃ e1 s', g (enc x) (st s) = some e1 ∧ b e1 = some (.nx (st s')) ∧ I s' xs) :
    ∀ (xs : List α) (s : S), I s xs → ∃ s', forL g b (xs.map enc) (st s) = some (.nx (st s')) ∧ I s' []
  | [], s, h => ⟨s, rfl, h⟩
  | x :: xs, s, h => by
    obtain ⟨e1, s1, h1, h2, h3⟩ := hs s x xs h
    obtain ⟨s2, h4, h5⟩ := forL_ex enc st I hs xs s1 h3
    exact ⟨s2, by simp only [List.map_cons, forL, h1, h2]; exact h4, h5⟩
theorem forL_fold {α S : Type} (enc : α → PV) {g : SG} {b : SS} (st : S → Env) (f : S → α → S) (I : S → List α → Prop)
    (hs : ∀ s x xs, I s (x :: xs) → ∃ e1, g (enc x) (st s) = some e1 ∧ b e1 = some (.nx (st (f s x))) ∧ I (f s x) xs) :
    ∀ (xs : List α) (s : S), I s xs → forL g b (xs.map enc) (st s) = some (.nx (st (xs.foldl f s))) ∧ I (xs.foldl f s) []
  | [], s, h => ⟨rfl, h⟩
  | x :: xs, s, h => by
    obtain ⟨e1, h1, h2, h3⟩ := hs s x xs h
    obtain ⟨h4, h5⟩ := forL_fold enc st f I hs xs (f s x) h3
    exact ⟨by simp only [List.map_cons, forL, h1, h2]; exact h4, h5⟩
/-- a loop that may return -/
theorem forL_find {α : Type} (enc : α → PV) {g : SG} {b : SS} {env : Env} (f : α → Option PV) :
    ∀ (xs : List α), (∀ x ∈ xs, ∃ e1, g (enc x) env = some e1 ∧ b e1 = some (match f x with | some r => .rt r | none => .nx env)) →
    forL g b (xs.map enc) env = some (match xs.findSome? f with | some r => .rt r | none => .nx env)
  | [], _ => rfl
  | x :: xs, h => by
    obtain ⟨e1, h1, h2⟩ := h x (by simp)
    have ih := forL_find enc f xs fun y hy => h y (by simp [hy])
    simp only [List.map_cons, forL, h1, h2, List.findSome?_cons]
    cases hf : f x with
    | some r => rfl
    | none => exact ih
theorem compL_map {α β : Type} (enc : α → PV) (enc2 : β → PV) {g : SG} {t : SB} {f : SE} {vs : List Nat} {env : Env} (p : α → Bool) (h : α → β) :
    ∀ (xs : List α), (∀ x ∈ xs, ∃ e1 e2, g (enc x) env = some e1 ∧ t e1 = some (p x, e2) ∧ (p x = true → ∃ e3, f e2 = some (enc2 (h x), e3) ∧ killE vs e3 = env) ∧ (p x = false → killE vs e2 = env)) →
    compL g t f vs (xs.map enc) env = some (((xs.filter p).map h).map enc2, env)
  | [], _ => rfl
  | x :: xs, hx => by
    obtain ⟨e1, e2, h1, h2, h3, h4⟩ := hx x (by simp)
    have ih := compL_map enc enc2 p h xs fun y hy => hx y (by simp [hy])
    simp only [List.map_cons, compL, h1, h2]
    cases hp : p x with
    | true =>
      obtain ⟨e3, h5, h6⟩ := h3 hp
      simp only [h5, h6, ih]
      simp [hp]
    | false =>
      simp only [h4 hp, ih]
      simp [hp]
theorem whileF_ex {S : Type} {c : SB} {b : SS} (st : S → Env) (I : S → Prop) (μ : S → Nat)
    (hs : ∀ s, I s → c (st s) = some (false, st s) ∨ ∃ e1 s', c (st s) = some (true, e1) ∧ b e1 = some (.nx (st s')) ∧ I s' ∧ μ s' < μ s) :
    ∀ (n : Nat) (s : S), I s → μ s < n → ∃ s', whileF n c b (st s) = some (.nx (st s')) ∧ I s' ∧ c (st s') = some (false, st s')
  | 0, _, _, h => absurd h (Nat.not_lt_zero _)
  | n + 1, s, i, h => by
    rcases hs s i with h1 | ⟨e1, s1, h1, h2, h3, h4⟩
    · exact ⟨s, by simp only [whileF, h1], i, h1⟩
    · obtain ⟨s2, h5, h6, h7⟩ := whileF_ex st I μ hs n s1 h3 (by omega)
      exact ⟨s2, by simp only [whileF, h1, h2]; exact h5, h6, h7⟩

/-! ### == -/
def eqvL (xs ys : List PV) : Bool := PyData.eqvAll (toDs xs) (toDs ys)
@[simp] theorem eqv_int (a b : Int) : eqv (.int a) (.int b) = decide (a = b) := by
  show PyData.eqv (.int a) (.int b) = _
  rw [PyData.eqv]
  by_cases h : a = b <;> simp [h]
@[simp] theorem eqv_bl (a b : Bool) : eqv (.bl a) (.bl b) = decide (a = b) := by
  show PyData.eqv (.bool a) (.bool b) = _
  rw [PyData.eqv]
  by_cases h : a = b <;> simp [h]
@[simp] theorem eqv_str (a b : List Nat) : eqv (.str a) (.str b) = decide (a = b) := by
  show PyData.eqv (.str (mkS a)) (.str (mkS b)) = _
  rw [PyData.eqv]
  by_cases h : a = b
  · simp [h]
  · have : mkS a ≠ mkS b := fun z => h (mkS_inj z)
    simp [h, this]
@[simp] theorem eqv_tup (xs ys : List PV) : eqv (.tup xs) (.tup ys) = eqvL xs ys := by
  show PyData.eqv (.tuple (toDs xs)) (.tuple (toDs ys)) = _
  rw [PyData.eqv]; rfl
@[simp] theorem eqv_lst (xs ys : List PV) : eqv (.lst xs) (.lst ys) = eqvL xs ys := by
  show PyData.eqv (.list (toDs xs)) (.list (toDs ys)) = _
  rw [PyData.eqv]; rfl
@[simp] theorem eqvL_nil : eqvL [] [] = true := rfl
@[simp] theorem eqvL_nc (y : PV) (ys : List PV) : eqvL [] (y :: ys) = false := by
  unfold eqvL; simp [toDs, PyData.eqvAll]
@[simp] theorem eqvL_cn (y : PV) (ys : List PV) : eqvL (y :: ys) [] = false := by
  unfold eqvL; simp [toDs, PyData.eqvAll]
@[simp] theorem eqvL_cons (x y : PV) (xs ys : List PV) : eqvL (x :: xs) (y :: ys) = (eqv x y && eqvL xs ys) := by
  unfold eqvL
  rw [toDs, toDs, PyData.eqvAll]; rfl
theorem eqvL_map {α : Type} [DecidableEq α] (enc : α → PV) (h : ∀ a b, eqv (enc a) (enc b) = decide (a = b)) : ∀ xs ys : List α, eqvL (xs.map enc) (ys.map enc) = decide (xs = ys)
  | [], [] => rfl
  | [], _ :: _ => by simp
  | _ :: _, [] => by simp
  | x :: xs, y :: ys => by
    rw [List.map_cons, List.map_cons, eqvL_cons, h, eqvL_map enc h xs ys]
    by_cases e : x = y <;> by_cases e2 : xs = ys <;> simp [e, e2]
@[simp] theorem eqvL_ints (xs ys : List Int) : eqvL (xs.map .int) (ys.map .int) = decide (xs = ys) := eqvL_map PV.int eqv_int xs ys
mutual
theorem eqv_self : ∀ p : PV, pln p = true → eqv p p = true
  | .non, _ => by show PyData.eqv .none .none = true; rw [PyData.eqv]
  | .bl _, _ => by simp
  | .int _, _ => by simp
  | .str _, _ => by simp
  | .tup xs, h => by rw [eqv_tup]; exact eqvL_self xs h
  | .lst xs, h => by rw [eqv_lst]; exact eqvL_self xs h
  | .dic _ _, h => by cases h
  | .set _, h => by cases h
  | .scr _, h => by cases h
theorem eqvL_self : ∀ p : List PV, plnL p = true → eqvL p p = true
  | [], _ => rfl
  | x :: xs, h => by
    have h' := Bool.and_eq_true_iff.mp h
    rw [eqvL_cons, eqv_self x h'.1, eqvL_self xs h'.2]; rfl
end
@[simp] theorem eqok_int (a : Int) : eqok (.int a) = true := rfl
@[simp] theorem eqok_bl (a : Bool) : eqok (.bl a) = true := rfl
@[simp] theorem eqok_non : eqok .non = true := rfl
theorem strOk_of {l : List Nat} (h : ∀ c ∈ l, c < 1114112) : (l.all fun c => decide (c < 1114112)) = true := by
  rw [List.all_eq_true]
  intro c hc
  exact decide_eq_true (h c hc)
theorem eqok_str {l : List Nat} (h : ∀ c ∈ l, c < 1114112) : eqok (.str l) = true := by
  unfold eqok
  rw [show pln (.str l) = true from strOk_of h]
  rfl
theorem plnL_map {α : Type} (enc : α → PV) (h : ∀ a, pln (enc a) = true) : ∀ xs : List α, plnL (xs.map enc) = true
  | [] => rfl
  | x :: xs => by simp [plnL, h, plnL_map enc h xs]
theorem depL_map {α : Type} (enc : α → PV) {n : Nat} (h : ∀ a, dep (enc a) ≤ n) : ∀ xs : List α, depL (xs.map enc) ≤ n
  | [] => Nat.zero_le _
  | x :: xs => by
    rw [List.map_cons, depL]
    have := h x
    have := depL_map enc h xs
    omega
@[simp] theorem eqok_tints (xs : List Int) : eqok (.tup (xs.map .int)) = true := by
  unfold eqok
  rw [show pln (.tup (xs.map .int)) = true from plnL_map PV.int (fun _ => rfl) xs]
  have := depL_map PV.int (n := 0) (fun _ => by simp [dep]) xs
  simp [dep]; omega
@[simp] theorem eqok_lints (xs : List Int) : eqok (.lst (xs.map .int)) = true := by
  unfold eqok
  rw [show pln (.lst (xs.map .int)) = true from plnL_map PV.int (fun _ => rfl) xs]
  have := depL_map PV.int (n := 0) (fun _ => by simp [dep]) xs
  simp [dep]; omega
theorem sm_small {a : Int} (h : -(2 ^ 64) < a ∧ a < 2 ^ 64) : sm a = true := by
  unfold sm
  exact decide_eq_true (by omega)
@[simp] theorem sl_eq : sizeLine = 16777216 := sizeLine_eq

/-! ### items by their places -/
theorem atI_of {α : Type} {xs : List α} {i : Nat} {x : α} (h : xs[i]? = some x) : L2.atI xs (i : Int) = some x := by
  unfold L2.atI ixN
  have hl : i < xs.length := (List.getElem?_eq_some_iff.mp h).1
  rw [if_pos (by omega), if_pos (by omega)]
  simpa using h
theorem atI_lit {α : Type} {xs : List α} {i : Int} {x : α} (h0 : 0 ≤ i) (h : xs[i.toNat]? = some x) : L2.atI xs i = some x := by
  have := atI_of h
  rwa [Int.toNat_of_nonneg h0] at this
theorem atI_last {α : Type} (xs : List α) (x : α) : L2.atI (xs ++ [x]) (-1) = some x := by
  unfold L2.atI ixN
  rw [if_neg (by decide), if_pos (by simp; omega)]
  simp
  rw [show ((-1 : Int) + (xs.length + 1 : Int)).toNat = xs.length by omega]
  simp
@[simp] theorem ixP_lints (ns : List Int) (i : Int) : ixP (.lst (ns.map .int)) (.int i) = (L2.atI ns i).map PV.int := by
  simp only [ixP, atI_map]
@[simp] theorem ixP_tints (ns : List Int) (i : Int) : ixP (.tup (ns.map .int)) (.int i) = (L2.atI ns i).map PV.int := by
  simp only [ixP, atI_map]
end Pv
namespace Pv
open PySem PySem.Spec PyProof.Rows L2
/-! the defs by pure values -/
noncomputable def l_knot_1 : SS :=
  sIf (bChain ltP ltP (x2 ixP (.bor 0) (.bor 4)) (x2 ixP (.bor 0) (.bor 2)) (x2 ixP (.bor 0) (.bor 3))) (sRet (xN dispT [.ex (xVar 2), .ex (xVar 3), .ex (xVar 4)])) (sNil)
noncomputable def l_knot_2 : SS :=
  sFor [4] (iArg rg2 [.ex (x2 addP (.bor 3) (.ex (xC (.int 1)))), .bor 1]) (gSet 4) l_knot_1
noncomputable def l_knot_3 : SS :=
  sFor [3, 4] (iArg rg2 [.ex (x2 addP (.bor 2) (.ex (xC (.int 1)))), .bor 1]) (gSet 3) l_knot_2
noncomputable def b_knot : SS :=
  sSeq (sSet 1 (xN lenP [.bor 0])) (sSeq (sFor [2, 3, 4] (iArg rg1 [.bor 1]) (gSet 2) l_knot_3) (sRet (xC .non)))
noncomputable def m_knot : List PV → Option PV := runDef 5 b_knot
noncomputable def l_moves_1 : SS :=
  sSeq (sExpr (xMut 3 popG [])) (sSeq (sAug 2 augP (xC (.int 1))) (sAug 4 augP (xC (.str [111]))))
noncomputable def t_moves_1 : SB :=
  bAnd (bVal (.bor 3)) (bCmp eqP (.ex (x2 ixP (.bor 3) (.ex (x1 negP (.ex (xC (.int 1))))))) (.ex (x2 ixP (.bor 1) (.bor 2))))
noncomputable def l_moves_2 : SS :=
  sSeq (sExpr (xMut 3 appG [.ex (xVar 5)])) (sSeq (sAug 4 augP (xC (.str [105]))) (sWhile 100000 [] t_moves_1 l_moves_1))
noncomputable def b_moves : SS :=
  sSeq (sSet 1 (xN sortP [.bor 0])) (sSeq (sSet 2 (xC (.int 0))) (sSeq (sNew 3 (xN dispL [])) (sSeq (sSet 4 (xC (.str []))) (sSeq (sFor [5] (iSeq (xVar 0)) (gSet 5) l_moves_2) (sRet (xIf (bVal (.bor 3)) (xC .non) (xVar 4)))))))
noncomputable def m_moves : List PV → Option PV := runDef 6 b_moves
noncomputable def b_can_pass : SS :=
  sRet (x2 notNP (.ex (xN m_moves [.ex (xVar 0)])) (.ex (xC .non)))
noncomputable def m_can_pass : List PV → Option PV := runDef 1 b_can_pass
noncomputable def b_law_cell : SS :=
  sSeq (sIf (bCmp ltP (.bor 1) (.ex (xN lenP [.bor 0]))) (sRet (x2 ixP (.bor 0) (.bor 1))) (sNil)) (sRet (x2 addP (.ex (x2 mulP (.ex (xC (.int 5))) (.bor 1))) (.ex (xC (.int 3)))))
noncomputable def m_law_cell : List PV → Option PV := runDef 2 b_law_cell
noncomputable def l_law_draws_1 : SS :=
  sKill [7] (sIf (bAnd (bVal (.bor 3)) (bCmp gtP (.bor 2) (.ex (xC (.int 0))))) (sSeq (sExpr (xMut 5 appG [.ex (x2 modP (.ex (xN intP [.bor 2])) (.ex (xC (.int 5040))))])) (sSet 2 (x2 fdivP (.bor 2) (.ex (xC (.int 5040)))))) (sSeq (sSet 7 (x2 modP (.ex (xN intP [.ex (x2 addP (.ex (x2 addP (.ex (x2 mulP (.bor 4) (.ex (xC (.int 48271))))) (.ex (x2 mulP (.ex (x2 addP (.bor 6) (.ex (xC (.int 1))))) (.ex (xC (.int 69621))))))) (.ex (xC (.int 11))))])) (.ex (xC (.int 2147483647))))) (sSeq (sSet 7 (x2 modP (.ex (xN intP [.ex (x2 addP (.ex (x2 mulP (.bor 7) (.bor 7))) (.ex (x2 mulP (.ex (xC (.int 40692))) (.ex (x2 addP (.bor 6) (.ex (xC (.int 3))))))))])) (.ex (xC (.int 2147483399))))) (sExpr (xMut 5 appG [.ex (x2 modP (.ex (xN intP [.ex (x2 fdivP (.bor 7) (.ex (xC (.int 64))))])) (.ex (xC (.int 5040))))])))))
noncomputable def b_law_draws : SS :=
  sSeq (sSet 2 (xN absP [.ex (xN intP [.bor 0])])) (sSeq (sSet 3 (x2 geP (.bor 2) (.ex (x2 powP (.ex (xC (.int 10))) (.ex (xC (.int 18))))))) (sSeq (sSet 4 (xVar 2)) (sSeq (sNew 5 (xN dispL [])) (sSeq (sFor [6, 7] (iArg rg1 [.bor 1]) (gSet 6) l_law_draws_1) (sRet (xVar 5))))))
noncomputable def m_law_draws : List PV → Option PV := runDef 8 b_law_draws
noncomputable def b_law_is_integer : SS :=
  sRet (xAnd (x1 (isiP "int") (.bor 0)) (xNot (x1 (isiP "bool") (.bor 0))))
noncomputable def m_law_is_integer : List PV → Option PV := runDef 1 b_law_is_integer
noncomputable def e_law_is_1 (rec : List PV → Option PV) : SE :=
  xN rec [.ex (x2 ixP (.bor 0) (.bor 2)), .ex (x2 ixP (.bor 1) (.bor 2))]
noncomputable def b_law_is (rec : List PV → Option PV) : SS :=
  sSeq (sIf (bCmp isNP (.bor 1) (.ex (xC .non))) (sRet (x2 isNP (.bor 0) (.ex (xC .non)))) (sNil)) (sSeq (sIf (bVal (.ex (x1 (isiP "bool") (.bor 1)))) (sRet (xAnd (x1 (isiP "bool") (.bor 0)) (x2 eqP (.bor 0) (.bor 1)))) (sNil)) (sSeq (sIf (bVal (.ex (x1 (isiP "int") (.bor 1)))) (sRet (xAnd (xN m_law_is_integer [.ex (xVar 0)]) (x2 eqP (.bor 0) (.bor 1)))) (sNil)) (sSeq (sIf (bVal (.ex (x1 (isiP "str") (.bor 1)))) (sRet (xAnd (x1 (isiP "str") (.bor 0)) (x2 eqP (.bor 0) (.bor 1)))) (sNil)) (sSeq (sIf (bOr (bNot (bVal (.ex (x1 (isiP "tuple") (.bor 0))))) (bCmp neP (.ex (xN lenP [.bor 0])) (.ex (xN lenP [.bor 1])))) (sRet (xC (.bl false))) (sNil)) (sRet (xN allP [.ex (xComp (iArg rg1 [.ex (xN lenP [.bor 1])]) (gSet 2) (bYes) ((e_law_is_1 rec)) [2])]))))))
noncomputable def m_law_is : Nat → List PV → Option PV
  | 0 => fun _ => none
  | k + 1 => runDef 3 (b_law_is (m_law_is k))
noncomputable def l_law_moves_1 : SS :=
  sSeq (sExpr (xMut 2 popG [])) (sSeq (sExpr (xMut 1 popAtG [.ex (xC (.int 0))])) (sSet 3 (x2 addP (.bor 3) (.ex (xC (.str [111]))))))
noncomputable def t_law_moves_1 : SB :=
  bAnd (bCmp gtP (.ex (xN lenP [.bor 2])) (.ex (xC (.int 0)))) (bCmp eqP (.ex (x2 ixP (.bor 2) (.ex (x1 negP (.ex (xC (.int 1))))))) (.ex (x2 ixP (.bor 1) (.ex (xC (.int 0))))))
noncomputable def l_law_moves_2 : SS :=
  sSeq (sExpr (xMut 2 appG [.ex (xVar 4)])) (sSeq (sSet 3 (x2 addP (.bor 3) (.ex (xC (.str [105]))))) (sWhile 100000 [] t_law_moves_1 l_law_moves_1))
noncomputable def b_law_moves : SS :=
  sSeq (sNew 1 (xN sortP [.bor 0])) (sSeq (sNew 2 (xN dispL [])) (sSeq (sSet 3 (xC (.str []))) (sSeq (sFor [4] (iSeq (xVar 0)) (gSet 4) l_law_moves_2) (sRet (xIf (bCmp eqP (.ex (xN lenP [.bor 2])) (.ex (xC (.int 0)))) (xVar 3) (xC .non))))))
noncomputable def m_law_moves : List PV → Option PV := runDef 5 b_law_moves
noncomputable def e_law_knot_1 : SE :=
  xVar 4
noncomputable def t_law_knot_1 : SB :=
  bChain ltP ltP (x2 ixP (.bor 0) (.bor 4)) (x2 ixP (.bor 0) (.bor 1)) (x2 ixP (.bor 0) (.bor 2))
noncomputable def l_law_knot_2 : SS :=
  sSeq (sSet 3 (xComp (iArg rg2 [.ex (x2 addP (.bor 2) (.ex (xC (.int 1)))), .ex (xN lenP [.bor 0])]) (gSet 4) (t_law_knot_1) (e_law_knot_1) [4])) (sIf (bCmp gtP (.ex (xN lenP [.bor 3])) (.ex (xC (.int 0)))) (sRet (xN dispT [.ex (xVar 1), .ex (xVar 2), .ex (x2 ixP (.bor 3) (.ex (xC (.int 0))))])) (sNil))
noncomputable def l_law_knot_3 : SS :=
  sFor [2, 3] (iArg rg2 [.ex (x2 addP (.bor 1) (.ex (xC (.int 1)))), .ex (xN lenP [.bor 0])]) (gSet 2) l_law_knot_2
noncomputable def b_law_knot : SS :=
  sSeq (sFor [1, 2, 3] (iArg rg1 [.ex (xN lenP [.bor 0])]) (gSet 1) l_law_knot_3) (sRet (xC .non))
noncomputable def m_law_knot : List PV → Option PV := runDef 5 b_law_knot
noncomputable def l_law_leaves_1 : SS :=
  sIf (bAnd (bCmp eqP (.bor 5) (.ex (xC (.str [105])))) (bCmp ltP (.bor 4) (.ex (xN lenP [.bor 0])))) (sSeq (sExpr (xMut 2 appG [.ex (x2 ixP (.bor 0) (.bor 4))])) (sSet 4 (x2 addP (.bor 4) (.ex (xC (.int 1)))))) (sIf (bAnd (bCmp eqP (.bor 5) (.ex (xC (.str [111])))) (bCmp gtP (.ex (xN lenP [.bor 2])) (.ex (xC (.int 0))))) (sExpr (xMut 3 appG [.ex (xMut 2 popG [])])) (sRet (xC (.bl false))))
noncomputable def b_law_leaves : SS :=
  sSeq (sNew 2 (xN dispL [])) (sSeq (sNew 3 (xN dispL [])) (sSeq (sSet 4 (xC (.int 0))) (sSeq (sFor [5] (iSeq (xVar 1)) (gSet 5) l_law_leaves_1) (sRet (x2 eqP (.bor 3) (.ex (xN sortP [.bor 0])))))))
noncomputable def m_law_leaves : List PV → Option PV := runDef 6 b_law_leaves
noncomputable def l_law_train_1 : SS :=
  sSeq (sSet 6 (x2 modP (.ex (xN intP [.ex (x2 ixP (.bor 0) (.bor 5))])) (.ex (xN lenP [.bor 3])))) (sSeq (sIf (bCmp eqP (.bor 2) (.ex (xC (.int 1)))) (sSet 6 (xN min2P [.ex (x2 subP (.ex (xN lenP [.bor 3])) (.ex (xC (.int 1)))), .ex (x2 modP (.ex (xN intP [.ex (x2 ixP (.bor 0) (.bor 5))])) (.ex (xC (.int 2))))])) (sNil)) (sSeq (sIf (bCmp eqP (.bor 2) (.ex (xC (.int 2)))) (sSet 6 (x2 ixP (.ex (xN dispT [.ex (xC (.int 0)), .ex (x2 subP (.ex (xN lenP [.bor 3])) (.ex (xC (.int 1))))])) (.ex (x2 modP (.ex (xN intP [.ex (x2 ixP (.bor 0) (.bor 5))])) (.ex (xC (.int 2))))))) (sNil)) (sExpr (xMut 4 appG [.ex (xMut 3 popAtG [.ex (xVar 6)])]))))
noncomputable def b_law_train : SS :=
  sSeq (sNew 3 (xLRg (xVar 1))) (sSeq (sNew 4 (xN dispL [])) (sSeq (sFor [5, 6] (iArg rg1 [.bor 1]) (gSet 5) l_law_train_1) (sRet (xN tupP [.bor 4]))))
noncomputable def m_law_train : List PV → Option PV := runDef 7 b_law_train
noncomputable def b_law_right : SS :=
  sSeq (sSet 1 (xN m_law_moves [.ex (xVar 0)])) (sSeq (sIf (bCmp neP (.ex (x2 isNP (.bor 1) (.ex (xC .non)))) (.ex (x2 notNP (.ex (xN m_law_knot [.ex (xVar 0)])) (.ex (xC .non))))) (sRet (xC (.bl false))) (sNil)) (sSeq (sSet 2 (xN m_moves [.ex (xVar 0)])) (sSeq (sIf (bOr (bNot (bVal (.ex (xN (m_law_is 8) [.ex (xVar 2), .ex (xVar 1)])))) (bAnd (bCmp notNP (.bor 1) (.ex (xC .non))) (bNot (bVal (.ex (xN m_law_leaves [.ex (xVar 0), .ex (xVar 2)])))))) (sRet (xC (.bl false))) (sNil)) (sRet (xAnd (xN (m_law_is 8) [.ex (xN m_can_pass [.ex (xVar 0)]), .ex (x2 notNP (.bor 1) (.ex (xC .non)))]) (xN (m_law_is 8) [.ex (xN m_knot [.ex (xVar 0)]), .ex (xN m_law_knot [.ex (xVar 0)])]))))))
noncomputable def m_law_right : List PV → Option PV := runDef 3 b_law_right
noncomputable def e_law_1 : SE :=
  x2 mulP (.ex (x2 subP (.bor 6) (.ex (xC (.int 4))))) (.bor 5)
noncomputable def l_law_2 : SS :=
  sSeq (sSet 3 (xIf (bCmp ltP (.ex (x2 modP (.ex (xN intP [.ex (x2 ixP (.bor 1) (.ex (xC (.int 0))))])) (.ex (xC (.int 4))))) (.ex (xC (.int 3)))) (x2 ixP (.ex (xN dispT [.ex (xC (.int 3)), .ex (xC (.int 5)), .ex (xC (.int 8)), .ex (xC (.int 16))])) (.bor 2)) (x2 modP (.ex (xN intP [.ex (x2 ixP (.bor 1) (.ex (x2 addP (.ex (xC (.int 1))) (.bor 2))))])) (.ex (xC (.int 17)))))) (sSeq (sSet 4 (xN m_law_train [.ex (xN m_law_draws [.ex (xN m_law_cell [.ex (xVar 0), .ex (x2 addP (.ex (xC (.int 1))) (.bor 2))]), .ex (xVar 3)]), .ex (xVar 3), .ex (x2 modP (.ex (xN intP [.ex (x2 ixP (.bor 1) (.ex (x2 addP (.ex (xC (.int 5))) (.bor 2))))])) (.ex (xC (.int 3))))])) (sSeq (sSet 5 (x2 ixP (.ex (xN dispT [.ex (xC (.int 1)), .ex (x2 powP (.ex (xC (.int 10))) (.ex (xC (.int 7))))])) (.ex (x2 modP (.ex (xN intP [.ex (x2 ixP (.bor 1) (.ex (xC (.int 9))))])) (.ex (xC (.int 2))))))) (sSeq (sSet 4 (xN tupP [.ex (xComp (iSeq (xVar 4)) (gSet 6) (bYes) (e_law_1) [6])])) (sIf (bOr (bNot (bVal (.ex (xN m_law_right [.ex (xVar 4)])))) (bNot (bVal (.ex (xN m_law_right [.ex (x1 revP (.bor 4))]))))) (sRet (xC (.bl false))) (sNil)))))
noncomputable def b_law : SS :=
  sSeq (sSet 1 (xN m_law_draws [.ex (xN m_law_cell [.ex (xVar 0), .ex (xC (.int 0))]), .ex (xC (.int 10))])) (sSeq (sFor [2, 3, 4, 5] (iArg rg1 [.ex (xC (.int 4))]) (gSet 2) l_law_2) (sRet (xAnd (xN m_law_right [.ex (xN dispT [])]) (xAnd (xN m_law_right [.ex (xN dispT [.ex (xC (.int 2)), .ex (xC (.int 3)), .ex (xC (.int 1))])]) (xAnd (xN m_law_right [.ex (xN dispT [.ex (xC (.int 3)), .ex (xC (.int 2)), .ex (xC (.int 1))])]) (xN m_law_right [.ex (xN dispT [.ex (xC (.int 1)), .ex (xC (.int 2)), .ex (xC (.int 3))])]))))))
noncomputable def m_law : List PV → Option PV := runDef 7 b_law
end Pv
/-! Trays and a siding: the plain law. -/
namespace K22
def pops : List Int → List Int → Nat
  | s :: st, w :: ws => if s = w then pops st ws + 1 else 0
  | _, _ => 0
theorem pops_take : ∀ st w : List Int, st.take (pops st w) = w.take (pops st w)
  | [], w => by simp [pops]
  | s :: st, [] => by simp [pops]
  | s :: st, w :: ws => by
    unfold pops
    split
    · rename_i h; rw [List.take_succ_cons, List.take_succ_cons, h, pops_take st ws]
    · rfl
theorem pops_le : ∀ st w : List Int, pops st w ≤ st.length ∧ pops st w ≤ w.length
  | [], w => by simp [pops]
  | s :: st, [] => by simp [pops]
  | s :: st, w :: ws => by
    unfold pops
    have := pops_le st ws
    split <;> simp <;> omega
theorem pops_stop : ∀ st w : List Int, pops (st.drop (pops st w)) (w.drop (pops st w)) = 0
  | [], w => by simp [pops]
  | s :: st, [] => by simp [pops]
  | s :: st, w :: ws => by
    by_cases h : s = w
    · have : pops (s :: st) (w :: ws) = pops st ws + 1 := by simp [pops, h]
      rw [this, List.drop_succ_cons, List.drop_succ_cons, pops_stop st ws]
    · have : pops (s :: st) (w :: ws) = 0 := by simp [pops, h]
      rw [this]; simpa using this
theorem pops_self : ∀ w : List Int, pops w w = w.length
  | [] => rfl
  | x :: w => by simp [pops, pops_self w]
/-- stack (the top first), what is wanted -/
def stepM (s : List Int × List Int) (t : Int) : List Int × List Int := ((t :: s.1).drop (pops (t :: s.1) s.2), s.2.drop (pops (t :: s.1) s.2))
structure Cfg (st fs w : List Int) : Prop where
  perm : (st ++ fs).Perm w
  sorted : w.Pairwise (· < ·)
theorem Cfg.step {st fs w : List Int} {x : Int} (c : Cfg st (x :: fs) w) : Cfg ((x :: st).drop (pops (x :: st) w)) fs (w.drop (pops (x :: st) w)) := by
  have h1 : ((x :: st) ++ fs).Perm w := by
    have : (st ++ x :: fs).Perm (x :: (st ++ fs)) := List.perm_middle
    exact this.symm.trans c.perm
  have h2 := pops_take (x :: st) w
  refine ⟨?_, c.sorted.sublist (List.drop_sublist _ _)⟩
  generalize hk : pops (x :: st) w = k at *
  have h3 : (((x :: st).take k ++ (x :: st).drop k) ++ fs).Perm (w.take k ++ w.drop k) := by
    rw [List.take_append_drop, List.take_append_drop]; exact h1
  rw [h2, List.append_assoc] at h3
  exact (List.perm_append_left_iff _).mp h3
theorem lt_of_split {w : List Int} {k : Nat} (h : w.Pairwise (· < ·)) {a b : Int} (ha : a ∈ w.take k) (hb : b ∈ w.drop k) : a < b := by
  have h' : (w.take k ++ w.drop k).Pairwise (· < ·) := by rw [List.take_append_drop]; exact h
  exact (List.pairwise_append.mp h').2.2 a ha b hb
def run (fs : List Int) (s : List Int × List Int) : List Int × List Int := fs.foldl stepM s
def Inv2 (st : List Int) : Prop := ∃ s t, s < t ∧ [t, s].Sublist st
theorem inv2_step {st fs w : List Int} {x : Int} (c : Cfg st (x :: fs) w) (h : Inv2 st) : Inv2 ((x :: st).drop (pops (x :: st) w)) := by
  obtain ⟨s, t, hst, hs⟩ := h
  have c2 := c.step
  have h2 := pops_take (x :: st) w
  refine ⟨s, t, hst, ?_⟩
  have hs2 : [t, s].Sublist (x :: st) := hs.trans (List.sublist_cons_self x st)
  generalize hk : pops (x :: st) w = k at *
  rw [← List.take_append_drop k (x :: st), List.sublist_append_iff] at hs2
  obtain ⟨l1, l2, e, s1, s2⟩ := hs2
  match l1, e with
  | [], e => simp at e; rw [e]; exact s2
  | [a], e =>
    simp at e
    obtain ⟨e1, e2⟩ := e
    subst e1 e2
    have ht : t ∈ w.take k := by rw [← h2]; exact s1.subset (by simp)
    have hs3 : s ∈ (x :: st).drop k := s2.subset (by simp)
    have hs4 : s ∈ w.drop k := c2.perm.subset (by simp only [List.mem_append]; exact .inl hs3)
    have := lt_of_split c.sorted ht hs4
    omega
  | [a, b], e =>
    simp at e
    obtain ⟨e1, e2, e3⟩ := e
    subst e1 e2
    rw [h2] at s1
    have p := (c.sorted.sublist (List.take_sublist k w)).sublist s1
    simp at p
    omega
  | a :: b :: c :: r, e => simp at e
theorem inv2_run : ∀ (fs st w : List Int), Cfg st fs w → Inv2 st → (run fs (st, w)).1 ≠ []
  | [], st, w, _, h => by
    obtain ⟨s, t, _, hs⟩ := h
    intro e
    have : (run [] (st, w)).1 = st := rfl
    rw [this] at e
    rw [e] at hs
    cases hs
  | x :: fs, st, w, c, h => inv2_run fs _ _ c.step (inv2_step c h)
def Pat (st fs : List Int) : Prop := ∃ s t u a b, fs = a ++ u :: b ∧ [s, t].Sublist (st.reverse ++ a) ∧ u < s ∧ s < t
theorem sub_mid {s t : Int} {A B C : List Int} (h : [s, t].Sublist (A ++ B ++ C)) (hs : s ∉ B) (ht : t ∉ B) : [s, t].Sublist (A ++ C) := by
  have h1 := h.filter (fun x => decide (x ∉ B))
  have e : [s, t].filter (fun x => decide (x ∉ B)) = [s, t] := by simp [hs, ht]
  rw [e] at h1
  rw [List.filter_append, List.filter_append] at h1
  have eB : B.filter (fun x => decide (x ∉ B)) = [] := by
    rw [List.filter_eq_nil_iff]
    intro a ha
    simp [ha]
  rw [eB, List.append_nil] at h1
  exact h1.trans ((List.filter_sublist).append (List.filter_sublist))
theorem pat_run : ∀ (fs st w : List Int), Cfg st fs w → Pat st fs → (run fs (st, w)).1 ≠ []
  | [], st, w, _, h => by
    obtain ⟨s, t, u, a, b, e, _⟩ := h
    simp at e
  | x :: fs, st, w, c, h => by
    obtain ⟨s, t, u, a, b, e, hs, h1, h2⟩ := h
    cases a with
    | nil =>
      simp at e hs
      refine inv2_run (x :: fs) st w c ⟨s, t, h2, ?_⟩
      have := List.reverse_sublist.mpr hs
      simpa using this
    | cons y a =>
      simp at e
      obtain ⟨e1, e2⟩ := e
      subst e1
      have c2 := c.step
      have hk2 := pops_take (x :: st) w
      refine pat_run fs _ _ c2 ?_
      generalize hk : pops (x :: st) w = k at *
      have hu : u ∈ w.drop k := c2.perm.subset (by rw [e2]; simp)
      refine ⟨s, t, u, a, b, e2, ?_, h1, h2⟩
      have e3 : st.reverse ++ x :: a = ((x :: st).drop k).reverse ++ ((x :: st).take k).reverse ++ a := by
        rw [← List.reverse_append, List.take_append_drop]; simp
      rw [e3] at hs
      refine sub_mid hs (fun hm => ?_) (fun hm => ?_)
      · have : s ∈ w.take k := by rw [← hk2]; simpa using hm
        have := lt_of_split c.sorted this hu
        omega
      · have : t ∈ w.take k := by rw [← hk2]; simpa using hm
        have := lt_of_split c.sorted this hu
        omega
theorem asc_eq : ∀ {a b : List Int}, a.Pairwise (· < ·) → b.Pairwise (· < ·) → a.Perm b → a = b := fun ha hb p =>
  p.eq_of_pairwise (le := (· ≤ ·)) (fun _ _ _ _ h1 h2 => Int.le_antisymm h1 h2) (ha.imp fun h => Int.le_of_lt h) (hb.imp fun h => Int.le_of_lt h)
theorem no_pat_run : ∀ (fs st w : List Int), Cfg st fs w → st.Pairwise (· < ·) → pops st w = 0 → ¬ Pat st fs → (run fs (st, w)).1 = []
  | [], st, w, c, hp, h0, _ => by
    have p := c.perm
    rw [List.append_nil] at p
    have e := asc_eq hp c.sorted p
    rw [e, pops_self] at h0
    rw [e]
    exact List.eq_nil_of_length_eq_zero h0
  | x :: fs, st, w, c, hp, h0, hn => by
    have c2 := c.step
    have hnd : w.Nodup := c.sorted.imp fun h => by omega
    refine no_pat_run fs _ _ c2 ?_ (pops_stop _ _) ?_
    · by_cases hk : pops (x :: st) w = 0
      · rw [hk]
        rw [List.drop_zero, List.pairwise_cons]
        refine ⟨fun y hy => ?_, hp⟩
        -- x is less than all that stand
        cases st with
        | nil => cases hy
        | cons s st =>
          have hsx : x < s := by
            rcases Int.lt_trichotomy x s with h | h | h
            · exact h
            · exfalso
              have hd : ((s :: st) ++ x :: fs).Nodup := (c.perm.nodup_iff).mpr hnd
              rw [h] at hd
              simp at hd
            · exfalso
              cases w with
              | nil => have := c.perm.length_eq; simp at this
              | cons u w =>
                have hmin : ∀ y ∈ (s :: st) ++ x :: fs, u ≤ y := fun y hy => by
                  have := c.perm.subset hy
                  rcases List.mem_cons.mp this with e | e
                  · omega
                  · have := (List.pairwise_cons.mp c.sorted).1 y e; omega
                have hus : s ≠ u := fun e => by
                  rw [e] at h0
                  simp [pops] at h0
                have hux : x ≠ u := fun e => by
                  rw [e] at hk
                  simp [pops] at hk
                have hu : u ∈ (s :: st) ++ x :: fs := c.perm.symm.subset (by simp)
                rcases List.mem_append.mp hu with q | q
                · rcases List.mem_cons.mp q with q | q
                  · exact hus q.symm
                  · have h1 := (List.pairwise_cons.mp hp).1 u q
                    have h2 := hmin s (by simp)
                    omega
                · rcases List.mem_cons.mp q with q | q
                  · exact hux q.symm
                  · obtain ⟨a, b, e⟩ := List.append_of_mem q
                    have h2 := hmin s (by simp)
                    refine hn ⟨s, x, u, x :: a, b, by rw [e]; simp, ?_, by omega, h⟩
                    have : [s, x].Sublist ((s :: st).reverse ++ [x]) := by
                      have h3 : [s].Sublist (s :: st).reverse := by simp
                      exact h3.append (List.Sublist.refl [x])
                    exact this.trans (by simp)
          rcases List.mem_cons.mp hy with e | e
          · rw [e]; exact hsx
          · have := (List.pairwise_cons.mp hp).1 y e; omega
      · obtain ⟨k, ek⟩ := Nat.exists_eq_succ_of_ne_zero hk
        rw [ek, Nat.succ_eq_add_one, List.drop_succ_cons]
        exact hp.sublist (List.drop_sublist _ _)
    · rintro ⟨s, t, u, a, b, e, hs, h1, h2⟩
      refine hn ⟨s, t, u, x :: a, b, by rw [e]; simp, ?_, h1, h2⟩
      have : (((x :: st).drop (pops (x :: st) w)).reverse ++ a).Sublist (st.reverse ++ x :: a) := by
        have h3 : ((x :: st).drop (pops (x :: st) w)).reverse.Sublist (x :: st).reverse := List.reverse_sublist.mpr (List.drop_sublist _ _)
        have h4 := h3.append (List.Sublist.refl a)
        simpa using h4
      exact hs.trans this
end K22
/-! What every law's text has: cells, draws, comparing. -/
namespace Pv
open PySem PySem.Spec PyProof.Rows L2
theorem cell_ok (ns : List Int) (k : Int) (h : 0 ≤ k) : ∃ c, m_law_cell [.scr ns, .int k] = some (.int c) := by
  unfold m_law_cell runDef b_law_cell
  have s5 : sm 5 = true := by decide
  by_cases hk : k < ns.length
  · have hl : k.toNat < ns.length := by omega
    refine ⟨ns[k.toNat], ?_⟩
    have e : L2.atI ns k = some ns[k.toNat] := atI_lit h (by rw [List.getElem?_eq_getElem hl])
    simp [hk, e]
  · exact ⟨5 * k + 3, by simp [hk, s5]⟩
theorem fm_pos {a b : Int} (h : 0 < b) : 0 ≤ a.fmod b ∧ a.fmod b < b := by
  rw [Int.fmod_eq_emod_of_nonneg a (by omega)]
  exact ⟨Int.emod_nonneg a (by omega), Int.emod_lt_of_pos a h⟩
structure DrI (n : Nat) (s : Int × List Int) (rem : List Nat) : Prop where
  len : s.2.length + rem.length = n
  lo : ∀ x ∈ rem, x < 1000
  nn : 0 ≤ s.1
  bd : ∀ d ∈ s.2, 0 ≤ d ∧ d < 5040
theorem draws_ok (c n : Int) (h0 : 0 ≤ n) (hn : n ≤ 1000) : ∃ ds : List Int, m_law_draws [.int c, .int n] = some (.lst (ds.map .int)) ∧ ds.length = n.toNat ∧ ∀ d ∈ ds, 0 ≤ d ∧ d < 5040 := by
  obtain ⟨⟨r, ds⟩, h1, h2⟩ := forL_ex (fun i : Nat => PV.int i) (g := gSet 6) (b := sKill [6, 7] l_law_draws_1)
    (fun s : Int × List Int => [Slot.fr (.int c), .fr (.int n), .fr (.int s.1), .fr (.bl (decide (1000000000000000000 ≤ (c.natAbs : Int)))), .fr (.int c.natAbs), .ow (.lst (s.2.map .int)), .none, .none]) (DrI n.toNat)
    (fun s x xs h => by
      obtain ⟨rest, ds⟩ := s
      have hx : x < 1000 := h.lo x (by simp)
      have hl : ds.length + (xs.length + 1) = n.toNat := by simpa using h.len
      have hz : ds.length < 16777216 := by omega
      refine ⟨_, if 1000000000000000000 ≤ (c.natAbs : Int) ∧ 0 < rest then (rest.fdiv 5040, ds ++ [rest.fmod 5040]) else
        (rest, ds ++ [((((((c.natAbs : Int) * 48271 + ((x : Int) + 1) * 69621 + 11).fmod 2147483647) * (((c.natAbs : Int) * 48271 + ((x : Int) + 1) * 69621 + 11).fmod 2147483647) + 40692 * ((x : Int) + 3)).fmod 2147483399).fdiv 64).fmod 5040]), rfl, ?_, ?_⟩
      · have s1 : sm 48271 = true := by decide
        have s2 : sm 69621 = true := by decide
        have s3 : sm 40692 = true := by decide
        have m1 := fm_pos (a := (c.natAbs : Int) * 48271 + ((x : Int) + 1) * 69621 + 11) (b := 2147483647) (by decide)
        have s4 : sm (((c.natAbs : Int) * 48271 + ((x : Int) + 1) * 69621 + 11).fmod 2147483647) = true := sm_small (by omega)
        by_cases hd : 1000000000000000000 ≤ (c.natAbs : Int)
        · by_cases hr : 0 < rest
          · simp [l_law_draws_1, hd, hr, hz]
          · simp [l_law_draws_1, hd, hr, hz, s1, s2, s3, s4]
        · simp [l_law_draws_1, hd, hz, s1, s2, s3, s4]
      · have key : ∀ d : Int, ∀ r2 : Int, (0 ≤ d ∧ d < 5040) → 0 ≤ r2 → DrI n.toNat (r2, ds ++ [d]) xs := fun d r2 hd hr2 =>
          ⟨by simp only [List.length_append, List.length_singleton]; omega, fun y hy => h.lo y (by simp [hy]), hr2, fun e he => by
            rcases List.mem_append.mp he with q | q
            · exact h.bd e q
            · simp only [List.mem_singleton] at q; rw [q]; exact hd⟩
        split
        · exact key _ _ (fm_pos (by decide)) (by rw [Int.fdiv_eq_ediv_of_nonneg _ (by decide)]; have := h.nn; exact Int.ediv_nonneg this (by decide))
        · exact key _ _ (fm_pos (by decide)) h.nn)
    (List.range n.toNat) ((c.natAbs : Int), []) ⟨by simp, fun x hx => by have := List.mem_range.mp hx; omega, Int.natCast_nonneg _, by simp⟩
  refine ⟨ds, ?_, ?_, h2.bd⟩
  · unfold m_law_draws runDef b_law_draws
    have hb : inR n := inR_of (by omega) (by omega)
    simp [hb]
    simp at h1
    rw [h1]
    simp
  · have := h2.len
    simpa using this

/-! _law_is: a value is what is due, if they are the same -/
mutual
/-- data that _law_is compares: None, bools, ints, texts, tuples of these -/
def isD : PV → Bool
  | .non => true
  | .bl _ => true
  | .int _ => true
  | .str l => l.all fun c => decide (c < 1114112)
  | .tup xs => decide (xs.length ≤ 16777216) && isDL xs
  | _ => false
def isDL : List PV → Bool
  | [] => true
  | x :: xs => isD x && isDL xs
end
mutual
theorem isD_pln : ∀ p : PV, isD p = true → pln p = true
  | .non, _ => rfl
  | .bl _, _ => rfl
  | .int _, _ => rfl
  | .str l, h => h
  | .tup xs, h => isDL_pln xs (Bool.and_eq_true_iff.mp h).2
  | .lst _, h => by cases h
  | .dic _ _, h => by cases h
  | .set _, h => by cases h
  | .scr _, h => by cases h
theorem isDL_pln : ∀ p : List PV, isDL p = true → plnL p = true
  | [], _ => rfl
  | x :: xs, h => by
    have h' := Bool.and_eq_true_iff.mp h
    show (pln x && plnL xs) = true
    rw [isD_pln x h'.1, isDL_pln xs h'.2]; rfl
end
theorem isDL_mem {xs : List PV} (h : isDL xs = true) : ∀ x ∈ xs, isD x = true := by
  induction xs with
  | nil => intro x hx; cases hx
  | cons y ys ih =>
    have h' := Bool.and_eq_true_iff.mp h
    intro x hx
    rcases List.mem_cons.mp hx with e | e
    · rw [e]; exact h'.1
    · exact ih h'.2 x e
@[simp] theorem law_int (p : PV) : m_law_is_integer [p] = match tyN p with
    | some n => some (.bl (isSub n "int" && !isSub n "bool"))
    | none => none := by
  unfold m_law_is_integer runDef b_law_is_integer
  cases p <;> simp
end Pv
namespace Pv
open PySem PySem.Spec PyProof.Rows L2
theorem is_non (rec : List PV → Option PV) : runDef 3 (b_law_is rec) [.non, .non] = some (.bl true) := by
  unfold runDef b_law_is
  simp
theorem is_bl (rec : List PV → Option PV) (b : Bool) : runDef 3 (b_law_is rec) [.bl b, .bl b] = some (.bl true) := by
  unfold runDef b_law_is
  simp
theorem is_int (rec : List PV → Option PV) (b : Int) : runDef 3 (b_law_is rec) [.int b, .int b] = some (.bl true) := by
  unfold runDef b_law_is
  simp

theorem is_str (rec : List PV → Option PV) (l : List Nat) (he : eqok (.str l) = true) : runDef 3 (b_law_is rec) [.str l, .str l] = some (.bl true) := by
  unfold runDef b_law_is
  simp [he]
theorem is_tup (rec : List PV → Option PV) (xs : List PV) (hl : xs.length ≤ 16777216) (hr : ∀ x ∈ xs, rec [x, x] = some (.bl true)) : runDef 3 (b_law_is rec) [.tup xs, .tup xs] = some (.bl true) := by
  have hc := compL_map (fun i : Nat => PV.int i) PV.bl (g := gSet 2) (t := bYes) (f := e_law_is_1 rec) (vs := [2]) (env := [Slot.fr (.tup xs), .fr (.tup xs), .none]) (fun _ => true) (fun _ => true) (List.range xs.length)
    (fun i hi => by
      have hi' := List.mem_range.mp hi
      have e : L2.atI xs (i : Int) = some xs[i] := atI_of (List.getElem?_eq_getElem hi')
      have h2 := hr xs[i] (List.getElem_mem hi')
      refine ⟨[.fr (.tup xs), .fr (.tup xs), .fr (.int i)], [.fr (.tup xs), .fr (.tup xs), .fr (.int i)], rfl, rfl, fun _ => ⟨[.fr (.tup xs), .fr (.tup xs), .fr (.int i)], ?_, rfl⟩, fun z => by cases z⟩
      simp [e_law_is_1, e, h2])
  have h3 : inR (xs.length : Int) := inR_of (by omega) (by omega)
  have hb : boolsO (List.map (PV.bl ∘ fun _ => true) (List.filter (fun _ => true) (List.range xs.length))) = some (List.map (fun _ => true) (List.filter (fun _ => true) (List.range xs.length))) := by
    rw [← List.map_map]; exact bools_of _
  unfold runDef b_law_is
  simp [h3, hl]
  simp at hc
  rw [hc]
  simp [hb]
theorem is_self : ∀ (k : Nat) (p : PV), isD p = true → dep p < k → m_law_is k [p, p] = some (.bl true) := by
  intro k
  induction k with
  | zero => intro p _ h; exact absurd h (Nat.not_lt_zero _)
  | succ k ih =>
    intro p hp hd
    show runDef 3 (b_law_is (m_law_is k)) [p, p] = _
    cases p with
    | non => exact is_non _
    | bl b => exact is_bl _ b
    | int i => exact is_int _ i
    | str l => exact is_str _ l (by unfold eqok; rw [show pln (.str l) = true from hp]; rfl)
    | tup xs =>
      have hp' := Bool.and_eq_true_iff.mp hp
      refine is_tup _ xs (of_decide_eq_true hp'.1) fun x hx => ih x (isDL_mem hp'.2 x hx) ?_
      have h1 := depL_mem hx
      have h2 : dep (.tup xs) = depL xs + 1 := rfl
      omega
    | lst _ => cases hp
    | dic _ _ => cases hp
    | set _ => cases hp
    | scr _ => cases hp
end Pv
namespace Pv
open PySem PySem.Spec PyProof.Rows L2 K22
@[simp] theorem popG_snoc (xs : List PV) (y : PV) : popG (xs ++ [y]) [] = some (y, xs) := by simp [popG]
@[simp] theorem isE_snoc (xs : List PV) (y : PV) : (xs ++ [y]).isEmpty = false := by cases xs <;> rfl
@[simp] theorem atI_snoc {α : Type} (xs : List α) (x : α) : L2.atI (xs ++ [x]) (-1) = some x := atI_last xs x
@[simp] theorem atI_ints (xs : List Int) (i : Int) : L2.atI (xs.map PV.int) i = (L2.atI xs i).map PV.int := atI_map ..
@[simp] theorem ixP_last (xs : List PV) (y : PV) : ixP (.lst (xs ++ [y])) (.int (-1)) = some y := atI_last xs y
/-- the state of moves: stack (the top first), what is wanted, gone, the text -/
def eM (ts w : List Int) (st : List Int) (g : Nat) (x : List Nat) (t : Slot) : Env := [.fr (.tup (ts.map .int)), .fr (.lst (w.map .int)), .fr (.int g), .ow (.lst (st.reverse.map .int)), .fr (.str x), t]
theorem while_moves (ts w : List Int) (t : Int) : ∀ (st : List Int) (g : Nat) (x : List Nat) (n : Nat), st.length + g ≤ w.length → st.length < n → x.length + st.length ≤ 100000 →
    whileF n t_moves_1 (sKill [] l_moves_1) (eM ts w st g x (.fr (.int t))) = some (.nx (eM ts w (st.drop (pops st (w.drop g))) (g + pops st (w.drop g)) (x ++ List.replicate (pops st (w.drop g)) 111) (.fr (.int t))))
  | [], g, x, n + 1, h1, h2, h3 => by simp [whileF, eM, t_moves_1, pops]
  | s :: st, g, x, n + 1, h1, h2, h3 => by
    simp only [List.length_cons] at h1 h2 h3
    have hg : g < w.length := by omega
    have e1 : L2.atI w (g : Int) = some w[g] := atI_of (List.getElem?_eq_getElem hg)
    have ew : w.drop g = w[g] :: w.drop (g + 1) := List.drop_eq_getElem_cons hg
    rw [ew]
    have hz : x.length + 1 ≤ 16777216 := by omega
    by_cases hs : s = w[g]
    · have ih := while_moves ts w t st (g + 1) (x ++ [111]) n (by omega) (by omega) (by simp; omega)
      have ep : pops (s :: st) (w[g] :: w.drop (g + 1)) = pops st (w.drop (g + 1)) + 1 := by simp [pops, hs]
      rw [ep, List.drop_succ_cons, List.replicate_succ]
      rw [show g + (pops st (w.drop (g + 1)) + 1) = g + 1 + pops st (w.drop (g + 1)) by omega]
      have ex : x ++ 111 :: List.replicate (pops st (w.drop (g + 1))) 111 = x ++ [111] ++ List.replicate (pops st (w.drop (g + 1))) 111 := by simp
      rw [ex, ← ih]
      simp [whileF, eM, t_moves_1, l_moves_1, e1, hs, hz]
    · have ep : pops (s :: st) (w[g] :: w.drop (g + 1)) = 0 := by simp [pops, hs]
      rw [ep]
      simp [whileF, eM, t_moves_1, e1, hs]
end Pv
namespace Pv
open PySem PySem.Spec PyProof.Rows L2 K22
abbrev SM := List Int × Nat × List Nat × Slot
def stT (w : List Int) (s : SM) (t : Int) : SM :=
  ((t :: s.1).drop (pops (t :: s.1) (w.drop s.2.1)), s.2.1 + pops (t :: s.1) (w.drop s.2.1), s.2.2.1 ++ [105] ++ List.replicate (pops (t :: s.1) (w.drop s.2.1)) 111, .none)
def iM (w : List Int) (s : SM) (rem : List Int) : Prop :=
  s.1.length + s.2.1 + rem.length ≤ w.length ∧ s.2.2.1.length + s.1.length + 2 * rem.length ≤ 1000
theorem iM_step {w : List Int} {s : SM} {x : Int} {xs : List Int} (h : iM w s (x :: xs)) : iM w (stT w s x) xs := by
  obtain ⟨h1, h2⟩ := h
  have := pops_le (x :: s.1) (w.drop s.2.1)
  simp only [List.length_cons] at h1 h2 this
  unfold iM stT
  simp only [List.length_drop, List.length_cons, List.length_append, List.length_replicate, List.length_nil]
  omega
theorem moves_loop (ts w : List Int) (rem : List Int) (s : SM) (h : iM w s rem) :
    forL (gSet 5) (sKill [5] l_moves_2) (rem.map .int) (eM ts w s.1 s.2.1 s.2.2.1 s.2.2.2) = some (.nx (eM ts w (rem.foldl (stT w) s).1 (rem.foldl (stT w) s).2.1 (rem.foldl (stT w) s).2.2.1 (rem.foldl (stT w) s).2.2.2)) := by
  refine (forL_fold PV.int (fun s : SM => eM ts w s.1 s.2.1 s.2.2.1 s.2.2.2) (stT w) (iM w) ?_ rem s h).1
  intro s x xs h
  have h' := h
  obtain ⟨h1, h2⟩ := h
  obtain ⟨st, g, tx, sl⟩ := s
  simp only [List.length_cons] at h1 h2
  have hw := while_moves ts w x (x :: st) g (tx ++ [105]) 100000 (by simp; omega) (by simp; omega) (by simp; omega)
  have hz : tx.length + 1 ≤ 16777216 := by omega
  have hz2 : st.length < 16777216 := by omega
  refine ⟨_, rfl, ?_, iM_step h'⟩
  have e1 : l_moves_2 (eM ts w st g tx (.fr (.int x))) = whileF 100000 t_moves_1 (sKill [] l_moves_1) (eM ts w (x :: st) g (tx ++ [105]) (.fr (.int x))) := by
    unfold l_moves_2
    simp [eM, hz, hz2]
  show sKill [5] l_moves_2 (eM ts w st g tx (.fr (.int x))) = _
  unfold sKill
  rw [e1, hw]
  rfl
/-- the trays as the sorted names stand -/
def srt (ts : List Int) : List Int := ts.mergeSort (· ≤ ·)
def finS (ts : List Int) : SM := ts.foldl (stT (srt ts)) ([], 0, [], .none)
def resM (ts : List Int) : PV := if (finS ts).1 = [] then .str (finS ts).2.2.1 else .non
theorem srt_len (ts : List Int) : (srt ts).length = ts.length := List.length_mergeSort ..
theorem iM_init (ts : List Int) (h : ts.length ≤ 500) : iM (srt ts) ([], 0, [], .none) ts := by
  unfold iM
  rw [srt_len]
  simp; omega
theorem m_moves_ok (ts : List Int) (h : ts.length ≤ 500) : m_moves [.tup (ts.map .int)] = some (resM ts) := by
  have hl : forL (gSet 5) (sKill [5] l_moves_2) (ts.map .int) [.fr (.tup (ts.map .int)), .fr (.lst ((srt ts).map .int)), .fr (.int 0), .ow (.lst []), .fr (.str []), .none] = some (.nx (eM ts (srt ts) (finS ts).1 (finS ts).2.1 (finS ts).2.2.1 (finS ts).2.2.2)) := moves_loop ts (srt ts) ts ([], 0, [], .none) (iM_init ts h)
  have hs : sortP [.tup (ts.map .int)] = some (.lst ((srt ts).map .int)) := sortP_tup ts
  unfold m_moves runDef b_moves
  try simp at hl
  simp [hs, hl, resM]
  by_cases hf : (finS ts).1 = []
  · simp [eM, hf]
  · have : (finS ts).1.isEmpty = false := by cases h1 : (finS ts).1 with
      | nil => exact absurd h1 hf
      | cons _ _ => rfl
    simp [eM, hf, this]
/-! ### the law's own moves -/
def eL (ts w : List Int) (st : List Int) (x : List Nat) (t : Slot) : Env := [.fr (.tup (ts.map .int)), .ow (.lst (w.map .int)), .ow (.lst (st.reverse.map .int)), .fr (.str x), t]
theorem popAt0 (x : PV) (xs : List PV) : popAtG (x :: xs) [.int 0] = some (x, xs) := by
  have h1 : inR 0 := inR_of (by decide) (by decide)
  have h2 : seqIndex? 0 (x :: xs).length = some 0 := by unfold seqIndex?; simp
  unfold popAtG
  simp only [h1, h2]
  rfl
theorem while_law (ts : List Int) (t : Int) : ∀ (st w : List Int) (x : List Nat) (n : Nat), st.length ≤ w.length → st.length < n → x.length + st.length ≤ 100000 →
    whileF n t_law_moves_1 (sKill [] l_law_moves_1) (eL ts w st x (.fr (.int t))) = some (.nx (eL ts (w.drop (pops st w)) (st.drop (pops st w)) (x ++ List.replicate (pops st w) 111) (.fr (.int t))))
  | [], w, x, n + 1, h1, h2, h3 => by simp [whileF, eL, t_law_moves_1, pops]
  | s :: st, [], x, n + 1, h1, h2, h3 => by simp at h1
  | s :: st, u :: w, x, n + 1, h1, h2, h3 => by
    simp only [List.length_cons] at h1 h2 h3
    have hz : x.length + 1 ≤ 16777216 := by omega
    have e1 : L2.atI (u :: w) 0 = some u := atI_lit (by decide) rfl
    have e2 : L2.atI (PV.int u :: w.map PV.int) 0 = some (.int u) := atI_lit (by decide) rfl
    have e3 : (0 : Int) < (st.length : Int) + 1 := by omega
    by_cases hs : s = u
    · have ih := while_law ts t st w (x ++ [111]) n (by omega) (by omega) (by simp; omega)
      have ep : pops (s :: st) (u :: w) = pops st w + 1 := by simp [pops, hs]
      rw [ep, List.drop_succ_cons, List.drop_succ_cons, List.replicate_succ]
      have ex : x ++ 111 :: List.replicate (pops st w) 111 = x ++ [111] ++ List.replicate (pops st w) 111 := by simp
      rw [ex, ← ih]
      simp [whileF, eL, t_law_moves_1, l_law_moves_1, e2, e3, hs, hz, popAt0]
    · have ep : pops (s :: st) (u :: w) = 0 := by simp [pops, hs]
      rw [ep]
      simp [whileF, eL, t_law_moves_1, e2, e3, hs]
theorem law_moves_loop (ts w : List Int) (rem : List Int) (s : SM) (h : iM w s rem) :
    forL (gSet 4) (sKill [4] l_law_moves_2) (rem.map .int) (eL ts (w.drop s.2.1) s.1 s.2.2.1 s.2.2.2) = some (.nx (eL ts (w.drop (rem.foldl (stT w) s).2.1) (rem.foldl (stT w) s).1 (rem.foldl (stT w) s).2.2.1 (rem.foldl (stT w) s).2.2.2)) := by
  refine (forL_fold PV.int (fun s : SM => eL ts (w.drop s.2.1) s.1 s.2.2.1 s.2.2.2) (stT w) (iM w) ?_ rem s h).1
  intro s x xs h
  have h' := h
  obtain ⟨h1, h2⟩ := h
  obtain ⟨st, g, tx, sl⟩ := s
  simp only [List.length_cons] at h1 h2
  have hw := while_law ts x (x :: st) (w.drop g) (tx ++ [105]) 100000 (by simp; omega) (by simp; omega) (by simp; omega)
  have hz : tx.length + 1 ≤ 16777216 := by omega
  have hz2 : st.length < 16777216 := by omega
  refine ⟨_, rfl, ?_, iM_step h'⟩
  have e1 : l_law_moves_2 (eL ts (w.drop g) st tx (.fr (.int x))) = whileF 100000 t_law_moves_1 (sKill [] l_law_moves_1) (eL ts (w.drop g) (x :: st) (tx ++ [105]) (.fr (.int x))) := by
    unfold l_law_moves_2
    simp [eL, hz, hz2]
  show sKill [4] l_law_moves_2 (eL ts (w.drop g) st tx (.fr (.int x))) = _
  unfold sKill
  rw [e1, hw]
  simp [stT, eL, killE]
theorem m_law_moves_ok (ts : List Int) (h : ts.length ≤ 500) : m_law_moves [.tup (ts.map .int)] = some (resM ts) := by
  have hl : forL (gSet 4) (sKill [4] l_law_moves_2) (ts.map .int) [.fr (.tup (ts.map .int)), .ow (.lst ((srt ts).map .int)), .ow (.lst []), .fr (.str []), .none] = some (.nx (eL ts ((srt ts).drop (finS ts).2.1) (finS ts).1 (finS ts).2.2.1 (finS ts).2.2.2)) := law_moves_loop ts (srt ts) ts ([], 0, [], .none) (iM_init ts h)
  have hs : sortP [.tup (ts.map .int)] = some (.lst ((srt ts).map .int)) := sortP_tup ts
  unfold m_law_moves runDef b_law_moves
  try simp at hl
  simp [hs, hl, resM]
  by_cases hf : (finS ts).1 = []
  · simp [eL, hf]
  · have h2 : ¬ ((finS ts).1.length : Int) = 0 := by
      intro e
      exact hf (List.length_eq_zero_iff.mp (by omega))
    simp [eL, hf]
end Pv
namespace Pv
open PySem PySem.Spec PyProof.Rows L2 K22
def kp (ts : List Int) (i j k : Nat) : Bool := decide (ts.getD k 0 < ts.getD i 0) && decide (ts.getD i 0 < ts.getD j 0)
def kr (i j k : Nat) : PV := .tup [.int i, .int j, .int k]
def kin (ts : List Int) (i j : Nat) : Option PV := (List.range (ts.length - (j + 1))).findSome? fun c => if kp ts i j (j + 1 + c) then some (kr i j (j + 1 + c)) else none
def kmid (ts : List Int) (i : Nat) : Option PV := (List.range (ts.length - (i + 1))).findSome? fun b => kin ts i (i + 1 + b)
def kfull (ts : List Int) : Option PV := (List.range ts.length).findSome? fun i => kmid ts i
theorem rg_len (n j : Nat) : ((n : Int) - ((j : Int) + 1)).toNat = n - (j + 1) := by omega
theorem atD {ts : List Int} {i : Nat} (h : i < ts.length) : L2.atI ts (i : Int) = some (ts.getD i 0) := atI_of (by simp [h])
theorem knot1 (ts : List Int) (i j : Nat) (hi : i < ts.length) (hj : j < ts.length) :
    forL (gSet 4) (sKill [4] l_knot_1) ((List.range (ts.length - (j + 1))).map fun (c : Nat) => PV.int ((j : Int) + 1 + c)) [.fr (.tup (ts.map .int)), .fr (.int ts.length), .fr (.int i), .fr (.int j), .none] = some (match kin ts i j with | some r => .rt r | none => .nx [.fr (.tup (ts.map .int)), .fr (.int ts.length), .fr (.int i), .fr (.int j), .none]) := by
  refine forL_find (fun (c : Nat) => PV.int ((j : Int) + 1 + c)) (fun c => if kp ts i j (j + 1 + c) then some (kr i j (j + 1 + c)) else none) _ fun c hc => ⟨_, rfl, ?_⟩
  have hc' := List.mem_range.mp hc
  have e1 := atD hi
  have e2 := atD hj
  have e3 := atD (i := j + 1 + c) (ts := ts) (by omega)
  have e4 : ((j + 1 + c : Nat) : Int) = (j : Int) + 1 + c := by push_cast; rfl
  rw [e4] at e3
  unfold l_knot_1
  by_cases h1 : ts.getD (j + 1 + c) 0 < ts.getD i 0
  · by_cases h2 : ts.getD i 0 < ts.getD j 0
    · simp [e1, e2, e3, h1, h2, kp, kr, -List.getD_eq_getElem?_getD]
    · simp [e1, e2, e3, h1, h2, kp, kr, -List.getD_eq_getElem?_getD]
  · simp [e1, e2, e3, h1, kp, kr, -List.getD_eq_getElem?_getD]
theorem knot2 (ts : List Int) (hn : ts.length ≤ 500) (i : Nat) (hi : i < ts.length) :
    forL (gSet 3) (sKill [3, 4] l_knot_2) ((List.range (ts.length - (i + 1))).map fun (c : Nat) => PV.int ((i : Int) + 1 + c)) [.fr (.tup (ts.map .int)), .fr (.int ts.length), .fr (.int i), .none, .none] = some (match kmid ts i with | some r => .rt r | none => .nx [.fr (.tup (ts.map .int)), .fr (.int ts.length), .fr (.int i), .none, .none]) := by
  refine forL_find (fun (c : Nat) => PV.int ((i : Int) + 1 + c)) (fun b => kin ts i (i + 1 + b)) _ fun c hc => ⟨_, rfl, ?_⟩
  have hc' := List.mem_range.mp hc
  have h := knot1 ts i (i + 1 + c) hi (by omega)
  have e4 : ((i + 1 + c : Nat) : Int) = (i : Int) + 1 + c := by push_cast; rfl
  have hr : inR ((i : Int) + 1 + c + 1) := inR_of (by omega) (by omega)
  have hr2 : inR (ts.length : Int) := inR_of (by omega) (by omega)
  have hl := rg_len ts.length (i + 1 + c)
  rw [e4] at h hl
  unfold l_knot_2
  simp [hr, hr2, hl]
  try simp at h
  rw [h]
  cases kin ts i (i + 1 + c) <;> rfl
theorem knot3 (ts : List Int) (hn : ts.length ≤ 500) :
    forL (gSet 2) (sKill [2, 3, 4] l_knot_3) ((List.range ts.length).map fun (c : Nat) => PV.int c) [.fr (.tup (ts.map .int)), .fr (.int ts.length), .none, .none, .none] = some (match kfull ts with | some r => .rt r | none => .nx [.fr (.tup (ts.map .int)), .fr (.int ts.length), .none, .none, .none]) := by
  refine forL_find (fun (c : Nat) => PV.int c) (fun i => kmid ts i) _ fun c hc => ⟨_, rfl, ?_⟩
  have hc' := List.mem_range.mp hc
  have h := knot2 ts hn c hc'
  have hr : inR ((c : Int) + 1) := inR_of (by omega) (by omega)
  have hr2 : inR (ts.length : Int) := inR_of (by omega) (by omega)
  have hl := rg_len ts.length c
  unfold l_knot_3
  simp [hr, hr2, hl]
  try simp at h
  rw [h]
  cases kmid ts c <;> rfl
theorem m_knot_ok (ts : List Int) (hn : ts.length ≤ 500) : m_knot [.tup (ts.map .int)] = some ((kfull ts).getD .non) := by
  have hr2 : inR (ts.length : Int) := inR_of (by omega) (by omega)
  unfold m_knot runDef b_knot
  have h := knot3 ts hn
  try simp at h
  simp [hr2]
  rw [h]
  cases kfull ts <;> rfl
/-! the law's knot -/
theorem find_filter {α β : Type} (p : α → Bool) (g : α → β) : ∀ l : List α, l.findSome? (fun c => if p c then some (g c) else none) = (l.filter p).head?.map g
  | [] => rfl
  | x :: xs => by
    have ih := find_filter p g xs
    by_cases h : p x = true
    · simp [h]
    · simp only [List.findSome?_cons, List.filter_cons, h]
      simpa using ih
theorem lknot1 (ts : List Int) (i j : Nat) (hn : ts.length ≤ 500) (hi : i < ts.length) (hj : j < ts.length) :
    l_law_knot_2 [.fr (.tup (ts.map .int)), .fr (.int i), .fr (.int j), .none, .none] = some (match kin ts i j with | some r => .rt r | none => .nx [.fr (.tup (ts.map .int)), .fr (.int i), .fr (.int j), .fr (.lst []), .none]) := by
  have hc := compL_map (fun (c : Nat) => PV.int ((j : Int) + 1 + c)) (fun c : Nat => PV.int ((j : Int) + 1 + c)) (g := gSet 4) (t := t_law_knot_1) (f := e_law_knot_1) (vs := [4]) (env := [.fr (.tup (ts.map .int)), .fr (.int i), .fr (.int j), .none, .none]) (fun c => kp ts i j (j + 1 + c)) id (List.range (ts.length - (j + 1)))
    (fun c hc => by
      have hc' := List.mem_range.mp hc
      have e1 := atD hi
      have e2 := atD hj
      have e3 := atD (i := j + 1 + c) (ts := ts) (by omega)
      have e4 : ((j + 1 + c : Nat) : Int) = (j : Int) + 1 + c := by push_cast; rfl
      rw [e4] at e3
      refine ⟨[.fr (.tup (ts.map .int)), .fr (.int i), .fr (.int j), .none, .fr (.int ((j : Int) + 1 + c))], [.fr (.tup (ts.map .int)), .fr (.int i), .fr (.int j), .none, .fr (.int ((j : Int) + 1 + c))], rfl, ?_, fun _ => ⟨[.fr (.tup (ts.map .int)), .fr (.int i), .fr (.int j), .none, .fr (.int ((j : Int) + 1 + c))], ?_, rfl⟩, fun _ => rfl⟩
      · unfold t_law_knot_1
        by_cases h1 : ts.getD (j + 1 + c) 0 < ts.getD i 0
        · by_cases h2 : ts.getD i 0 < ts.getD j 0
          · simp [e1, e2, e3, h1, h2, kp, -List.getD_eq_getElem?_getD]
          · simp [e1, e2, e3, h1, h2, kp, -List.getD_eq_getElem?_getD]
        · simp [e1, e2, e3, h1, kp, -List.getD_eq_getElem?_getD]
      · simp [e_law_knot_1])
  have hr : inR ((j : Int) + 1) := inR_of (by omega) (by omega)
  have hr2 : inR (ts.length : Int) := inR_of (by omega) (by omega)
  have hl := rg_len ts.length j
  have hz : ts.length - (j + 1) ≤ 16777216 := by omega
  have hk : kin ts i j = ((List.range (ts.length - (j + 1))).filter (fun c => kp ts i j (j + 1 + c))).head?.map fun c => kr i j (j + 1 + c) := find_filter (fun c => kp ts i j (j + 1 + c)) (fun c => kr i j (j + 1 + c)) _
  unfold l_law_knot_2
  simp [hr, hr2, hl, hz]
  simp at hc
  rw [hc]
  cases hq : (List.range (ts.length - (j + 1))).filter (fun c => kp ts i j (j + 1 + c)) with
  | nil =>
    rw [hq] at hk
    rw [hk]
    simp
  | cons a q =>
    rw [hq] at hk
    rw [hk]
    have e0 : L2.atI (PV.int ((j : Int) + 1 + a) :: q.map (fun (c : Nat) => PV.int ((j : Int) + 1 + c))) 0 = some (PV.int ((j : Int) + 1 + a)) := atI_lit (by decide) rfl
    have e3 : (0 : Int) < (q.length : Int) + 1 := by omega
    simp [e0, e3, kr]
theorem lknot2 (ts : List Int) (hn : ts.length ≤ 500) (i : Nat) (hi : i < ts.length) :
    forL (gSet 2) (sKill [2, 3] l_law_knot_2) ((List.range (ts.length - (i + 1))).map fun (c : Nat) => PV.int ((i : Int) + 1 + c)) [.fr (.tup (ts.map .int)), .fr (.int i), .none, .none, .none] = some (match kmid ts i with | some r => .rt r | none => .nx [.fr (.tup (ts.map .int)), .fr (.int i), .none, .none, .none]) := by
  refine forL_find (fun (c : Nat) => PV.int ((i : Int) + 1 + c)) (fun b => kin ts i (i + 1 + b)) _ fun c hc => ⟨_, rfl, ?_⟩
  have hc' := List.mem_range.mp hc
  have h := lknot1 ts i (i + 1 + c) hn hi (by omega)
  have e4 : ((i + 1 + c : Nat) : Int) = (i : Int) + 1 + c := by push_cast; rfl
  rw [e4] at h
  unfold sKill
  show (match l_law_knot_2 [.fr (.tup (ts.map .int)), .fr (.int i), .fr (.int ((i : Int) + 1 + c)), .none, .none] with | some fl => some (fl.kill [2, 3]) | none => none) = _
  rw [h]
  cases kin ts i (i + 1 + c) <;> rfl
theorem lknot3 (ts : List Int) (hn : ts.length ≤ 500) :
    forL (gSet 1) (sKill [1, 2, 3] l_law_knot_3) ((List.range ts.length).map fun (c : Nat) => PV.int c) [.fr (.tup (ts.map .int)), .none, .none, .none, .none] = some (match kfull ts with | some r => .rt r | none => .nx [.fr (.tup (ts.map .int)), .none, .none, .none, .none]) := by
  refine forL_find (fun (c : Nat) => PV.int c) (fun i => kmid ts i) _ fun c hc => ⟨_, rfl, ?_⟩
  have hc' := List.mem_range.mp hc
  have h := lknot2 ts hn c hc'
  have hr : inR ((c : Int) + 1) := inR_of (by omega) (by omega)
  have hr2 : inR (ts.length : Int) := inR_of (by omega) (by omega)
  have hl := rg_len ts.length c
  unfold l_law_knot_3
  simp [hr, hr2, hl]
  try simp at h
  rw [h]
  cases kmid ts c <;> rfl
theorem m_law_knot_ok (ts : List Int) (hn : ts.length ≤ 500) : m_law_knot [.tup (ts.map .int)] = some ((kfull ts).getD .non) := by
  have hr2 : inR (ts.length : Int) := inR_of (by omega) (by omega)
  unfold m_law_knot runDef b_law_knot
  have h := lknot3 ts hn
  try simp at h
  simp [hr2]
  rw [h]
  cases kfull ts <;> rfl
end Pv
namespace Pv
open PySem PySem.Spec PyProof.Rows L2 K22
/-! ### the text, told from the front -/
def textT (w : List Int) : List Int → List Int → Nat → List Nat
  | [], _, _ => []
  | t :: rem, st, g => 105 :: (List.replicate (pops (t :: st) (w.drop g)) 111 ++ textT w rem ((t :: st).drop (pops (t :: st) (w.drop g))) (g + pops (t :: st) (w.drop g)))
theorem textT_eq (w : List Int) : ∀ (rem : List Int) (s : SM), (rem.foldl (stT w) s).2.2.1 = s.2.2.1 ++ textT w rem s.1 s.2.1
  | [], s => by simp [textT]
  | t :: rem, s => by
    rw [List.foldl_cons, textT_eq w rem (stT w s t), textT]
    simp [stT]
theorem textT_codes (w : List Int) : ∀ (rem st : List Int) (g : Nat), ∀ c ∈ textT w rem st g, c < 1114112
  | [], _, _, c, h => by cases h
  | t :: rem, st, g, c, h => by
    unfold textT at h
    rcases List.mem_cons.mp h with e | e
    · omega
    · rcases List.mem_append.mp e with q | q
      · have := (List.mem_replicate.mp q).2; omega
      · exact textT_codes w rem _ _ c q
theorem fin_g (w : List Int) : ∀ (rem : List Int) (s : SM), (rem.foldl (stT w) s).1.length + (rem.foldl (stT w) s).2.1 = s.1.length + s.2.1 + rem.length
  | [], s => by simp
  | t :: rem, s => by
    rw [List.foldl_cons, fin_g w rem (stT w s t)]
    have := pops_le (t :: s.1) (w.drop s.2.1)
    unfold stT
    simp at this ⊢
    omega
theorem fin_run (w : List Int) : ∀ (rem : List Int) (s : SM), ((rem.foldl (stT w) s).1, w.drop (rem.foldl (stT w) s).2.1) = K22.run rem (s.1, w.drop s.2.1)
  | [], s => rfl
  | t :: rem, s => by
    rw [List.foldl_cons, fin_run w rem (stT w s t)]
    unfold K22.run stT
    rw [List.foldl_cons]
    congr 1
    unfold stepM
    simp

/-! ### _law_leaves -/
def eV (ts : List Int) (tx : List Nat) (st out : List Int) (u : Nat) : Env := [.fr (.tup (ts.map .int)), .fr (.str tx), .ow (.lst (st.reverse.map .int)), .ow (.lst (out.map .int)), .fr (.int u), .none]
theorem leaves_o (ts : List Int) (tx : List Nat) (u : Nat) : ∀ (k : Nat) (st out : List Int) (rest : List PV), k ≤ st.length → out.length + k ≤ 1000 →
    forL (gSet 5) (sKill [5] l_law_leaves_1) (List.replicate k (.str [111]) ++ rest) (eV ts tx st out u) = forL (gSet 5) (sKill [5] l_law_leaves_1) rest (eV ts tx (st.drop k) (out ++ st.take k) u)
  | 0, st, out, rest, h, _ => by simp
  | k + 1, [], out, rest, h, _ => by simp at h
  | k + 1, s :: st, out, rest, h, h2 => by
    simp only [List.length_cons] at h
    have ih := leaves_o ts tx u k st (out ++ [s]) rest (by omega) (by simp; omega)
    have e3 : (0 : Int) < (st.length : Int) + 1 := by omega
    have hz : out.length < 16777216 := by omega
    rw [List.replicate_succ, List.cons_append, List.drop_succ_cons, List.take_succ_cons]
    have ex : out ++ s :: st.take k = out ++ [s] ++ st.take k := by simp
    rw [ex, ← ih]
    have e1 : sKill [5] l_law_leaves_1 [.fr (.tup (ts.map .int)), .fr (.str tx), .ow (.lst ((s :: st).reverse.map .int)), .ow (.lst (out.map .int)), .fr (.int u), .fr (.str [111])] = some (.nx (eV ts tx st (out ++ [s]) u)) := by
      have q1 : eqok (.str [111]) = true := eqok_str (by decide)
      have q2 : eqok (.str [105]) = true := eqok_str (by decide)
      unfold l_law_leaves_1
      simp [eV, e3, hz, q1, q2]
    rw [forL]
    have e0 : gSet 5 (.str [111]) (eV ts tx (s :: st) out u) = some [.fr (.tup (ts.map .int)), .fr (.str tx), .ow (.lst ((s :: st).reverse.map .int)), .ow (.lst (out.map .int)), .fr (.int u), .fr (.str [111])] := rfl
    rw [e0]
    simp only [e1]
theorem leaves_i (ts : List Int) (tx : List Nat) (u : Nat) (t : Int) (st out : List Int) (rest : List PV) (hu : ts[u]? = some t) (h : st.length ≤ 1000) :
    forL (gSet 5) (sKill [5] l_law_leaves_1) (.str [105] :: rest) (eV ts tx st out u) = forL (gSet 5) (sKill [5] l_law_leaves_1) rest (eV ts tx (t :: st) out (u + 1)) := by
  have hl : u < ts.length := (List.getElem?_eq_some_iff.mp hu).1
  have ht := atI_of hu
  have hz : st.length < 16777216 := by omega
  have e1 : sKill [5] l_law_leaves_1 [.fr (.tup (ts.map .int)), .fr (.str tx), .ow (.lst (st.reverse.map .int)), .ow (.lst (out.map .int)), .fr (.int u), .fr (.str [105])] = some (.nx (eV ts tx (t :: st) out (u + 1))) := by
    have q2 : eqok (.str [105]) = true := eqok_str (by decide)
    unfold l_law_leaves_1
    simp [eV, ht, hl, hz, q2]
  rw [forL]
  have e0 : gSet 5 (.str [105]) (eV ts tx st out u) = some [.fr (.tup (ts.map .int)), .fr (.str tx), .ow (.lst (st.reverse.map .int)), .ow (.lst (out.map .int)), .fr (.int u), .fr (.str [105])] := rfl
  rw [e0]
  simp only [e1]
theorem leaves_all (ts w : List Int) (tx : List Nat) (hw : w.length ≤ 500) : ∀ (rem st : List Int) (g u : Nat) (sl : Slot) (x : List Nat), ts.drop u = rem → st.length + g + rem.length ≤ w.length →
    ∃ u2, forL (gSet 5) (sKill [5] l_law_leaves_1) ((textT w rem st g).map fun c => .str [c]) (eV ts tx st (w.take g) u) = some (.nx (eV ts tx (rem.foldl (stT w) (st, g, x, sl)).1 (w.take (rem.foldl (stT w) (st, g, x, sl)).2.1) u2))
  | [], st, g, u, sl, x, h1, h2 => ⟨u, rfl⟩
  | t :: rem, st, g, u, sl, x, h1, h2 => by
    simp only [List.length_cons] at h2
    have hu : ts[u]? = some t := by
      have := congrArg (fun l => l[0]?) h1
      simpa using this
    have hd : ts.drop (u + 1) = rem := by
      have := congrArg (fun l => l.drop 1) h1
      simpa using this
    have hp := pops_le (t :: st) (w.drop g)
    have hk := pops_take (t :: st) (w.drop g)
    simp only [List.length_cons, List.length_drop] at hp
    obtain ⟨u2, ih⟩ := leaves_all ts w tx hw rem ((t :: st).drop (pops (t :: st) (w.drop g))) (g + pops (t :: st) (w.drop g)) (u + 1) (.none) (x ++ [105] ++ List.replicate (pops (t :: st) (w.drop g)) 111) hd (by simp; omega)
    refine ⟨u2, ?_⟩
    rw [textT, List.map_cons, leaves_i ts tx u t st (w.take g) _ hu (by omega), List.map_append, List.map_replicate,
      leaves_o ts tx (u + 1) _ (t :: st) (w.take g) _ hp.1 (by simp; omega), hk, ← List.take_add]
    exact ih
theorem m_law_leaves_ok (ts : List Int) (h : ts.length ≤ 500) (hf : (finS ts).1 = []) : m_law_leaves [.tup (ts.map .int), .str (finS ts).2.2.1] = some (.bl true) := by
  obtain ⟨u2, hl⟩ := leaves_all ts (srt ts) (finS ts).2.2.1 (by rw [srt_len]; exact h) ts [] 0 0 .none [] (by simp) (by rw [srt_len]; simp)
  have hx : (finS ts).2.2.1 = textT (srt ts) ts [] 0 := by
    have := textT_eq (srt ts) ts ([], 0, [], .none)
    simpa [finS] using this
  have hg : (finS ts).2.1 = ts.length := by
    have := fin_g (srt ts) ts ([], 0, [], .none)
    have hf' : (ts.foldl (stT (srt ts)) ([], 0, [], .none)).1 = [] := hf
    rw [hf'] at this
    simpa [finS] using this
  have hl2 : forL (gSet 5) (sKill [5] l_law_leaves_1) (((finS ts).2.2.1).map fun c => .str [c]) [.fr (.tup (ts.map .int)), .fr (.str (finS ts).2.2.1), .ow (.lst []), .ow (.lst []), .fr (.int 0), .none] = some (.nx (eV ts (finS ts).2.2.1 [] (srt ts) u2)) := by
    have e : (srt ts).take (finS ts).2.1 = srt ts := by rw [hg, ← srt_len]; simp
    rw [← hx] at hl
    have h3 : forL (gSet 5) (sKill [5] l_law_leaves_1) (((finS ts).2.2.1).map fun c => .str [c]) [.fr (.tup (ts.map .int)), .fr (.str (finS ts).2.2.1), .ow (.lst []), .ow (.lst []), .fr (.int 0), .none] = some (.nx (eV ts (finS ts).2.2.1 (finS ts).1 ((srt ts).take (finS ts).2.1) u2)) := hl
    rw [hf, e] at h3
    exact h3
  have hs : sortP [.tup (ts.map .int)] = some (.lst ((srt ts).map .int)) := sortP_tup ts
  unfold m_law_leaves runDef b_law_leaves
  try simp at hl2
  simp [hl2, hs, eV]
/-! ### _law_train -/
theorem pop_at (xs : List Int) (i : Int) (h0 : 0 ≤ i) (h1 : i < xs.length) (h2 : xs.length ≤ 1000) : ∃ y ys, popAtG (xs.map .int) [.int i] = some (.int y, ys.map .int) ∧ (y :: ys).Perm xs := by
  have hr : inR i := inR_of (by omega) (by omega)
  have hl : i.toNat < xs.length := by omega
  have hs : seqIndex? i (xs.map PV.int).length = some i.toNat := by
    unfold seqIndex?
    simp
    omega
  refine ⟨xs[i.toNat], xs.eraseIdx i.toNat, ?_, ?_⟩
  · unfold popAtG
    simp only [hr, hs]
    simp [hl, List.eraseIdx_eq_take_drop_succ, List.map_take, List.map_drop]
  · have e : xs = xs.take i.toNat ++ xs[i.toNat] :: xs.drop (i.toNat + 1) := by simp
    conv => rhs; rw [e]
    rw [List.eraseIdx_eq_take_drop_succ]
    exact List.perm_middle.symm
structure TrI (n : Nat) (s : List Int × List Int) (rem : List Nat) : Prop where
  len : s.1.length = rem.length
  lo : ∀ x ∈ rem, x < n
  per : (s.2 ++ s.1).Perm ((List.range n).map Int.ofNat)
theorem train_ok (ds : List Int) (n : Nat) (way : Int) (hn : n ≤ 17) (hd : ds.length = n) : ∃ ts : List Int, m_law_train [.lst (ds.map .int), .int n, .int way] = some (.tup (ts.map .int)) ∧ ts.Perm ((List.range n).map Int.ofNat) := by
  obtain ⟨⟨l, r⟩, h1, h2⟩ := forL_ex (fun i : Nat => PV.int i) (g := gSet 5) (b := sKill [5, 6] l_law_train_1)
    (fun s : List Int × List Int => [Slot.fr (.lst (ds.map .int)), .fr (.int n), .fr (.int way), .ow (.lst (s.1.map .int)), .ow (.lst (s.2.map .int)), .none, .none]) (TrI n)
    (fun s x xs h => by
      obtain ⟨l, r⟩ := s
      have hx : x < n := h.lo x (by simp)
      have hlen : l.length = xs.length + 1 := by simpa using h.len
      have hx2 : x < ds.length := by omega
      have hp := h.per.length_eq
      simp only [List.length_append, List.length_map, List.length_range] at hp
      have e1 : L2.atI ds (x : Int) = some (ds.getD x 0) := atD hx2
      have m1 := fm_pos (a := ds.getD x 0) (b := (l.length : Int)) (by omega)
      have m2 := fm_pos (a := ds.getD x 0) (b := 2) (by omega)
      generalize hd0 : ds.getD x 0 = d at *
      have hz : r.length < 16777216 := by omega
      have hne : ¬ l = [] := by intro z; rw [z] at hlen; simp at hlen
      have key : ∀ at' : Int, 0 ≤ at' → at' < l.length → sKill [5, 6] l_law_train_1 [Slot.fr (.lst (ds.map .int)), .fr (.int n), .fr (.int way), .ow (.lst (l.map .int)), .ow (.lst (r.map .int)), .fr (.int x), .none] = 
         (match popAtG (l.map .int) [.int at'] with | some (y, ys) => some (.nx [Slot.fr (.lst (ds.map .int)), .fr (.int n), .fr (.int way), .ow (.lst ys), .ow (.lst (r.map .int ++ [y])), .none, .none]) | none => none) →
          ∃ e1 s', gSet 5 (.int x) [Slot.fr (.lst (ds.map .int)), .fr (.int n), .fr (.int way), .ow (.lst (l.map .int)), .ow (.lst (r.map .int)), .none, .none] = some e1 ∧ sKill [5, 6] l_law_train_1 e1 = some (.nx ((fun s : List Int × List Int => [Slot.fr (.lst (ds.map .int)), .fr (.int n), .fr (.int way), .ow (.lst (s.1.map .int)), .ow (.lst (s.2.map .int)), .none, .none]) s')) ∧ TrI n s' xs := by
        intro at' h0 h1 he
        obtain ⟨y, ys, p1, p2⟩ := pop_at l at' h0 h1 (by omega)
        refine ⟨_, (ys, r ++ [y]), rfl, ?_, ?_⟩
        · show sKill [5, 6] l_law_train_1 [Slot.fr (.lst (ds.map .int)), .fr (.int n), .fr (.int way), .ow (.lst (l.map .int)), .ow (.lst (r.map .int)), .fr (.int x), .none] = _
          rw [he, p1]
          simp
        · have p3 := p2.length_eq
          simp only [List.length_cons] at p3
          refine ⟨by simp only; omega, fun y hy => h.lo y (by simp [hy]), ?_⟩
          have p4 : (r ++ [y] ++ ys).Perm (r ++ l) := by
            rw [List.append_assoc]
            exact (List.perm_append_left_iff r).mpr p2
          exact p4.trans h.per
      by_cases hw1 : way = 1
      · refine key (min ((l.length : Int) - 1) (d.fmod 2)) (by omega) (by omega) ?_
        unfold l_law_train_1
        simp [e1, hne, hw1, hz]
        cases popAtG (l.map PV.int) [.int (min ((l.length : Int) - 1) (d.fmod 2))] <;> simp [hz]
      · by_cases hw2 : way = 2
        · have he : d.fmod 2 = 0 ∨ d.fmod 2 = 1 := by omega
          rcases he with he | he
          · refine key 0 (by omega) (by omega) ?_
            have ea : L2.atI [PV.int 0, PV.int ((l.length : Int) - 1)] 0 = some (.int 0) := rfl
            unfold l_law_train_1
            simp [e1, hne, hw1, hw2, hz, he, ea]
            cases popAtG (l.map PV.int) [.int 0] <;> simp [hz]
          · refine key ((l.length : Int) - 1) (by omega) (by omega) ?_
            have ea : L2.atI [PV.int 0, PV.int ((l.length : Int) - 1)] 1 = some (.int ((l.length : Int) - 1)) := rfl
            unfold l_law_train_1
            simp [e1, hne, hw1, hw2, hz, he, ea]
            cases popAtG (l.map PV.int) [.int ((l.length : Int) - 1)] <;> simp [hz]
        · refine key (d.fmod l.length) (by omega) (by omega) ?_
          unfold l_law_train_1
          simp [e1, hne, hw1, hw2, hz]
          cases popAtG (l.map PV.int) [.int (d.fmod l.length)] <;> simp [hz])
    (List.range n) ((List.range n).map Int.ofNat, []) ⟨by simp, fun x hx => List.mem_range.mp hx, by simp⟩
  have h3 : l = [] := List.length_eq_zero_iff.mp (by simpa using h2.len)
  have hr2 : inR (n : Int) := inR_of (by omega) (by omega)
  refine ⟨r, ?_, by have := h2.per; rw [h3] at this; simpa using this⟩
  unfold m_law_train runDef b_law_train
  have e : rgP 0 (n : Int) = (List.range n).map (PV.int ∘ Int.ofNat) := by
    unfold rgP
    simp
  have hz : (n : Int) ≤ 16777216 := by omega
  simp [hr2, e, hz]
  simp at h1
  rw [h1]
  simp
end Pv
namespace Pv
open PySem PySem.Spec PyProof.Rows L2 K22
theorem two_sub (l : List Int) (i j : Nat) (h : i < j) (hj : j < l.length) : [l.getD i 0, l.getD j 0].Sublist l := by
  have e : l = l.take j ++ l.drop j := (List.take_append_drop j l).symm
  have h1 : [l.getD i 0].Sublist (l.take j) := by
    rw [List.singleton_sublist, List.mem_take_iff_getElem]
    exact ⟨i, by omega, by simp [show i < l.length by omega]⟩
  have h2 : [l.getD j 0].Sublist (l.drop j) := by
    rw [List.singleton_sublist, List.mem_drop_iff_getElem]
    exact ⟨0, by omega, by simp [hj]⟩
  have := h1.append h2
  rw [← e] at this
  simpa using this
theorem kfull_pat (ts : List Int) : kfull ts ≠ none ↔ Pat [] ts := by
  constructor
  · intro h
    cases hk : kfull ts with
    | none => exact absurd hk h
    | some r =>
      unfold kfull at hk
      obtain ⟨i, hi, h1⟩ := List.exists_of_findSome?_eq_some hk
      unfold kmid at h1
      obtain ⟨b, hb, h2⟩ := List.exists_of_findSome?_eq_some h1
      unfold kin at h2
      obtain ⟨c, hc, h3⟩ := List.exists_of_findSome?_eq_some h2
      rw [List.mem_range] at hi hb hc
      split at h3
      · rename_i hp
        unfold kp at hp
        simp only [Bool.and_eq_true, decide_eq_true_eq] at hp
        have hl : i + 1 + b + 1 + c < ts.length := by omega
        refine ⟨ts.getD i 0, ts.getD (i + 1 + b) 0, ts.getD (i + 1 + b + 1 + c) 0, ts.take (i + 1 + b + 1 + c), ts.drop (i + 1 + b + 1 + c + 1), ?_, ?_, hp.1, hp.2⟩
        · have : ts.getD (i + 1 + b + 1 + c) 0 = ts[i + 1 + b + 1 + c] := by simp [hl]
          rw [this]; simp
        · have h4 := two_sub (ts.take (i + 1 + b + 1 + c)) i (i + 1 + b) (by omega) (by simp; omega)
          have e1 : (ts.take (i + 1 + b + 1 + c)).getD i 0 = ts.getD i 0 := by
            simp only [List.getD_eq_getElem?_getD]; rw [List.getElem?_take_of_lt (by omega)]
          have e2 : (ts.take (i + 1 + b + 1 + c)).getD (i + 1 + b) 0 = ts.getD (i + 1 + b) 0 := by
            simp only [List.getD_eq_getElem?_getD]; rw [List.getElem?_take_of_lt (by omega)]
          rw [e1, e2] at h4
          simpa using h4
      · cases h3
  · rintro ⟨s, t, u, a, b, e, hs, h1, h2⟩ hk
    simp only [List.reverse_nil, List.nil_append] at hs
    rw [List.cons_sublist_iff] at hs
    obtain ⟨r1, r2, ea, m1, m2⟩ := hs
    rw [List.singleton_sublist] at m2
    obtain ⟨i, hi, ei⟩ := List.getElem_of_mem m1
    obtain ⟨j, hj, ej⟩ := List.getElem_of_mem m2
    subst ea
    subst e
    unfold kfull at hk
    rw [List.findSome?_eq_none_iff] at hk
    have k1 := hk i (by rw [List.mem_range]; simp; omega)
    unfold kmid at k1
    rw [List.findSome?_eq_none_iff] at k1
    have k2 := k1 (r1.length + j - (i + 1)) (by rw [List.mem_range]; simp; omega)
    unfold kin at k2
    rw [List.findSome?_eq_none_iff] at k2
    have q1 : i + 1 + (r1.length + j - (i + 1)) = r1.length + j := by omega
    rw [q1] at k2
    have k3 := k2 (r1.length + r2.length - (r1.length + j + 1)) (by rw [List.mem_range]; simp; omega)
    have q2 : r1.length + j + 1 + (r1.length + r2.length - (r1.length + j + 1)) = (r1 ++ r2).length := by simp; omega
    rw [q2] at k3
    have g1 : (r1 ++ r2 ++ u :: b).getD i 0 = s := by
      simp only [List.getD_eq_getElem?_getD, List.append_assoc]
      rw [List.getElem?_append_left hi]
      simp [hi, ei]
    have g2 : (r1 ++ r2 ++ u :: b).getD (r1.length + j) 0 = t := by
      simp only [List.getD_eq_getElem?_getD, List.append_assoc]
      rw [List.getElem?_append_right (by omega)]
      rw [show r1.length + j - r1.length = j by omega, List.getElem?_append_left hj]
      simp [hj, ej]
    have g3 : (r1 ++ r2 ++ u :: b).getD (r1 ++ r2).length 0 = u := by
      simp only [List.getD_eq_getElem?_getD]
      rw [List.getElem?_append_right (by omega)]
      simp
    have hp : kp (r1 ++ r2 ++ u :: b) i (r1.length + j) (r1 ++ r2).length = true := by
      unfold kp
      rw [g1, g2, g3]
      simp [h1, h2]
    rw [if_pos hp] at k3
    cases k3
theorem srt_strict (ts : List Int) (h : ts.Nodup) : (srt ts).Pairwise (· < ·) := by
  have h1 : (srt ts).Pairwise (fun a b => decide (a ≤ b) = true) := List.pairwise_mergeSort (fun a b c h1 h2 => by simp at *; omega) (fun a b => by simp; omega) ts
  have h2 : (srt ts).Nodup := ((List.mergeSort_perm ts _).nodup_iff).mpr h
  have h3 := h1.and h2
  refine h3.imp fun {a b} h => ?_
  have := of_decide_eq_true h.1
  have := h.2
  omega
theorem fin_iff (ts : List Int) (h : ts.Nodup) : (finS ts).1 = [] ↔ kfull ts = none := by
  have c : Cfg [] ts (srt ts) := ⟨by simpa [srt] using (List.mergeSort_perm ts _).symm, srt_strict ts h⟩
  have e : (finS ts).1 = (K22.run ts ([], srt ts)).1 := congrArg Prod.fst (fin_run (srt ts) ts ([], 0, [], .none))
  constructor
  · intro h1
    cases hk : kfull ts with
    | none => rfl
    | some r =>
      have hp : Pat [] ts := (kfull_pat ts).mp (by rw [hk]; simp)
      exact absurd (e ▸ h1) (pat_run ts [] (srt ts) c hp)
  · intro h1
    rw [e]
    refine no_pat_run ts [] (srt ts) c .nil (by simp [pops]) fun hp => ?_
    exact (kfull_pat ts).mpr hp h1
theorem fin_codes (ts : List Int) : ∀ c ∈ (finS ts).2.2.1, c < 1114112 := by
  have hx : (finS ts).2.2.1 = textT (srt ts) ts [] 0 := by
    have := textT_eq (srt ts) ts ([], 0, [], .none)
    simpa [finS] using this
  rw [hx]
  exact textT_codes _ _ _ _
theorem resM_D (ts : List Int) : isD (resM ts) = true ∧ dep (resM ts) < 8 := by
  unfold resM
  split
  · exact ⟨strOk_of (fin_codes ts), by simp [dep]⟩
  · exact ⟨rfl, by simp [dep]⟩
theorem kfull_kr (ts : List Int) {r : PV} (h : kfull ts = some r) : ∃ i j k, r = kr i j k := by
  unfold kfull at h
  obtain ⟨i, hi, h1⟩ := List.exists_of_findSome?_eq_some h
  unfold kmid at h1
  obtain ⟨b, hb, h2⟩ := List.exists_of_findSome?_eq_some h1
  unfold kin at h2
  obtain ⟨c, hc, h3⟩ := List.exists_of_findSome?_eq_some h2
  split at h3
  · cases h3; exact ⟨_, _, _, rfl⟩
  · cases h3
theorem right_ok (ts : List Int) (hn : ts.length ≤ 500) (h : ts.Nodup) : m_law_right [.tup (ts.map .int)] = some (.bl true) := by
  have h1 := m_law_moves_ok ts hn
  have h2 := m_law_knot_ok ts hn
  have h3 := m_moves_ok ts hn
  have h4 := m_knot_ok ts hn
  have h5 := is_self 8 (resM ts) (resM_D ts).1 (resM_D ts).2
  have h6 := is_self 8 (.bl true) rfl (by simp [dep])
  have h7 := is_self 8 (.bl false) rfl (by simp [dep])
  have hcp : m_can_pass [.tup (ts.map .int)] = some (.bl (match resM ts with | .non => false | _ => true)) := by
    unfold m_can_pass runDef b_can_pass
    simp [h3]
    unfold resM
    by_cases hf : (finS ts).1 = [] <;> simp [hf]
  unfold m_law_right runDef b_law_right
  cases hk : kfull ts with
  | none =>
    have hf := (fin_iff ts h).mpr hk
    have h8 := m_law_leaves_ok ts hn hf
    have hr : resM ts = .str (finS ts).2.2.1 := by unfold resM; rw [if_pos hf]
    have h9 := is_self 8 .non rfl (by simp [dep])
    rw [hk] at h2 h4
    rw [hr] at h1 h3 h5 hcp
    simp [h1, h2, h3, h4, h5, h6, h7, hcp, h8, h9]
  | some r =>
    have hf : ¬ (finS ts).1 = [] := fun z => by rw [(fin_iff ts h).mp z] at hk; cases hk
    have hr : resM ts = .non := by unfold resM; rw [if_neg hf]
    obtain ⟨i, j, k, ek⟩ := kfull_kr ts hk
    rw [hk] at h2 h4
    rw [hr] at h1 h3 h5 hcp
    subst ek
    have h9 := is_self 8 (kr i j k) rfl (by simp [kr, dep, depL])
    have h10 : notNP (kr i j k) .non = some (.bl true) := rfl
    simp only [Option.getD_some] at h2 h4
    unfold kr at h2 h4 h9
    simp [h1, h2, h3, h4, h5, h6, h7, hcp, h9, h10]
theorem nodup_len (ts : List Int) (n : Nat) (h : ts.Perm ((List.range n).map Int.ofNat)) : ts.length = n ∧ ts.Nodup := by
  refine ⟨by simpa using h.length_eq, (h.nodup_iff).mpr ?_⟩
  exact List.Pairwise.map Int.ofNat (fun a b hab e => hab (Int.ofNat.inj e)) List.nodup_range
theorem spread_ok (ts : List Int) (k : Int) (hk : k ≠ 0) (h : ts.Nodup) : (ts.map fun t => (t - 4) * k).Nodup := by
  refine List.Pairwise.map _ (fun a b hab e => hab ?_) h
  have := Int.eq_of_mul_eq_mul_right hk e
  omega
@[simp] theorem filter_yes {α : Type} (l : List α) : l.filter (fun _ => true) = l := by rw [List.filter_eq_self]; intros; rfl
theorem law2_ok (ns : List Int) (hns : ns.length ≤ 63) (ds : List Int) (hl : ds.length = 10) (hd : ∀ d ∈ ds, 0 ≤ d ∧ d < 5040) (i : Nat) (hi : i < 4) :
    sKill [2, 3, 4, 5] l_law_2 [.fr (.scr ns), .fr (.lst (ds.map .int)), .fr (.int i), .none, .none, .none, .none] = some (.nx [.fr (.scr ns), .fr (.lst (ds.map .int)), .none, .none, .none, .none, .none]) := by
  have e0 : L2.atI ds 0 = some (ds.getD 0 0) := atI_lit (by decide) (by simp [hl])
  have e1 : L2.atI ds (1 + (i : Int)) = some (ds.getD (1 + i) 0) := by
    have := atD (ts := ds) (i := 1 + i) (by omega)
    rwa [show ((1 + i : Nat) : Int) = 1 + (i : Int) by push_cast; rfl] at this
  have e5 : L2.atI ds (5 + (i : Int)) = some (ds.getD (5 + i) 0) := by
    have := atD (ts := ds) (i := 5 + i) (by omega)
    rwa [show ((5 + i : Nat) : Int) = 5 + (i : Int) by push_cast; rfl] at this
  have e9 : L2.atI ds 9 = some (ds.getD 9 0) := atI_lit (by decide) (by simp [hl])
  have e4 : ∃ c : Nat, c ≤ 17 ∧ L2.atI [PV.int 3, PV.int 5, PV.int 8, PV.int 16] (i : Int) = some (.int c) := by
    match i, hi with
    | 0, _ => exact ⟨3, by omega, rfl⟩
    | 1, _ => exact ⟨5, by omega, rfl⟩
    | 2, _ => exact ⟨8, by omega, rfl⟩
    | 3, _ => exact ⟨16, by omega, rfl⟩
  obtain ⟨c1, hc1, e4⟩ := e4
  have m17 := fm_pos (a := ds.getD (1 + i) 0) (b := 17) (by decide)
  obtain ⟨cell, hcell⟩ := cell_ok ns (1 + (i : Int)) (by omega)
  have esp : ∃ k : Int, k ≠ 0 ∧ sm k = true ∧ L2.atI [PV.int 1, PV.int 10000000] ((ds.getD 9 0).fmod 2) = some (.int k) := by
    have m2 := fm_pos (a := ds.getD 9 0) (b := 2) (by decide)
    have he : (ds.getD 9 0).fmod 2 = 0 ∨ (ds.getD 9 0).fmod 2 = 1 := by omega
    rcases he with he | he
    · rw [he]; exact ⟨1, by decide, by decide, rfl⟩
    · rw [he]; exact ⟨10000000, by decide, by decide, rfl⟩
  obtain ⟨k, hk, hk2, ek⟩ := esp
  have main : ∀ c : Nat, c ≤ 17 → ∃ ds2 ts : List Int, m_law_draws [.int cell, .int c] = some (.lst (ds2.map .int)) ∧ m_law_train [.lst (ds2.map .int), .int c, .int ((ds.getD (5 + i) 0).fmod 3)] = some (.tup (ts.map .int)) ∧
      m_law_right [.tup ((ts.map fun t => (t - 4) * k).map .int)] = some (.bl true) ∧ m_law_right [.tup ((ts.map fun t => (t - 4) * k).reverse.map .int)] = some (.bl true) ∧ ts.length ≤ 17 ∧ ∀ t ∈ ts, sm (t - 4) = true := by
    intro c hc
    obtain ⟨ds2, d1, d2, d3⟩ := draws_ok cell c (by omega) (by omega)
    obtain ⟨ts, t1, t2⟩ := train_ok ds2 c ((ds.getD (5 + i) 0).fmod 3) hc (by omega)
    have t3 := nodup_len ts c t2
    have t4 := spread_ok ts k hk t3.2
    refine ⟨ds2, ts, d1, t1, right_ok _ (by simp; omega) t4, right_ok _ (by simp; omega) (((List.reverse_perm _).nodup_iff).mpr t4), by omega, fun t ht => ?_⟩
    have := t2.subset ht
    rw [List.mem_map] at this
    obtain ⟨x, hx, ex⟩ := this
    have := List.mem_range.mp hx
    have : t = (x : Int) := ex.symm
    exact sm_small (by omega)
  have fin : ∀ c : Nat, c ≤ 17 → ∀ ds2 ts : List Int, ts.length ≤ 17 → (∀ t ∈ ts, sm (t - 4) = true) →
      compL (gSet 6) bYes e_law_1 [6] (ts.map .int) [.fr (.scr ns), .fr (.lst (ds.map .int)), .fr (.int i), .fr (.int c), .fr (.tup (ts.map .int)), .fr (.int k), .none] = some ((ts.map fun t => (t - 4) * k).map .int, [.fr (.scr ns), .fr (.lst (ds.map .int)), .fr (.int i), .fr (.int c), .fr (.tup (ts.map .int)), .fr (.int k), .none]) := by
    intro c hc ds2 ts hts hsm
    have := compL_map PV.int PV.int (g := gSet 6) (t := bYes) (f := e_law_1) (vs := [6]) (env := [.fr (.scr ns), .fr (.lst (ds.map .int)), .fr (.int i), .fr (.int c), .fr (.tup (ts.map .int)), .fr (.int k), .none]) (fun _ => true) (fun t => (t - 4) * k) ts
      (fun t ht => by
        refine ⟨[.fr (.scr ns), .fr (.lst (ds.map .int)), .fr (.int i), .fr (.int c), .fr (.tup (ts.map .int)), .fr (.int k), .fr (.int t)], [.fr (.scr ns), .fr (.lst (ds.map .int)), .fr (.int i), .fr (.int c), .fr (.tup (ts.map .int)), .fr (.int k), .fr (.int t)], rfl, rfl, fun _ => ⟨[.fr (.scr ns), .fr (.lst (ds.map .int)), .fr (.int i), .fr (.int c), .fr (.tup (ts.map .int)), .fr (.int k), .fr (.int t)], ?_, rfl⟩, fun z => by cases z⟩
        unfold e_law_1
        simp [hsm t ht, hk2])
    rw [filter_yes] at this
    exact this
  unfold l_law_2
  by_cases h0 : (ds.getD 0 0).fmod 4 < 3
  · obtain ⟨ds2, ts, p1, p2, p3, p4, p5, p6⟩ := main c1 hc1
    have p7 := fin c1 hc1 ds2 ts p5 p6
    have hz : ts.length ≤ 16777216 := by omega
    simp at p3 p4 p7
    simp [e0, e1, e5, e9, e4, ek, hcell, h0, p1, p2, p3, p4, p7, hz, -List.getD_eq_getElem?_getD]
  · obtain ⟨c2, hc2⟩ := Int.eq_ofNat_of_zero_le m17.1
    obtain ⟨ds2, ts, p1, p2, p3, p4, p5, p6⟩ := main c2 (by omega)
    have p7 := fin c2 (by omega) ds2 ts p5 p6
    have hz : ts.length ≤ 16777216 := by omega
    simp at p3 p4 p7
    simp [e0, e1, e5, e9, e4, ek, hcell, h0, hc2, p1, p2, p3, p4, p7, hz, -List.getD_eq_getElem?_getD]
theorem law_true (ns : List Int) (hns : ns.length ≤ 63) : m_law [.scr ns] = some (.bl true) := by
  obtain ⟨cell, hcell⟩ := cell_ok ns 0 (by omega)
  obtain ⟨ds, d1, d2, d3⟩ := draws_ok cell 10 (by omega) (by omega)
  have h := forL_find (fun i : Nat => PV.int i) (g := gSet 2) (b := sKill [2, 3, 4, 5] l_law_2) (env := [.fr (.scr ns), .fr (.lst (ds.map .int)), .none, .none, .none, .none, .none]) (fun _ => none) (List.range 4)
    (fun x hx => ⟨_, rfl, law2_ok ns hns ds d2 d3 x (List.mem_range.mp hx)⟩)
  have q : (List.range 4).findSome? (fun _ => (none : Option PV)) = none := by rw [List.findSome?_eq_none_iff]; intros; rfl
  rw [q] at h
  have r0 : m_law_right [.tup []] = some (.bl true) := right_ok [] (by simp) .nil
  have r1 : m_law_right [.tup [.int 2, .int 3, .int 1]] = some (.bl true) := right_ok [2, 3, 1] (by simp) (by decide)
  have r2 : m_law_right [.tup [.int 3, .int 2, .int 1]] = some (.bl true) := right_ok [3, 2, 1] (by simp) (by decide)
  have r3 : m_law_right [.tup [.int 1, .int 2, .int 3]] = some (.bl true) := right_ok [1, 2, 3] (by simp) (by decide)
  have hr : inR 4 := inR_of (by omega) (by omega)
  unfold m_law runDef b_law
  simp [hcell, d1, hr]
  try simp at h
  simp [h, r0, r1, r2, r3]
end Pv
namespace Pv
open PySem PySem.Spec PyProof.Rows L2
def top (i : Nat) : Stmt := PySem.Challenge.pw_allmails_k22_whole_sidings_or_knots.main.body.getD i (.Pass ⟨0, 0, 0, 0⟩)
section
variable {P : Program} {w : World} {K : PySem.W.Frag} {mg : Str → Option Value} {base : Heap}
abbrev S_knot : Stmt := top 1
theorem sc_knot : FnScope ["train", "size", "i", "j", "k"] ["train"] (defScope S_knot) := ⟨rfl, rfl, rfl, by decide +kernel, rfl, by decide +kernel, by decide +kernel⟩
theorem ok_knot (T : Blt mg) (D : Dd K mg "knot" S_knot ["train"])  : Pr P w K mg base "knot" 1 1 m_knot :=
  pr_ok (body := b_knot) D sc_knot fun f cdv A outer s H E hr =>
    (ss_cons (st_asg (i := 1) sc_knot.nd rfl (by first | exact Or.inl rfl | exact Or.inr rfl) (ev_blt b_len (by rfl) T.len (as_cons (pv 0) as_nil rfl) rfl rfl) rfl (.inl rfl))
    (ss_cons (st_for (ds := [2, 3, 4]) PassesOwn.never rfl (it_rg1 (by rfl) T.range (as_cons (pv 1) as_nil rfl) rfl) (tg_name (i := 2) sc_knot.nd rfl (by first | exact Or.inl rfl | exact Or.inr rfl) (.inl rfl)) (ss_one (st_for (ds := [3, 4]) PassesOwn.never rfl (it_rg2 (by rfl) T.range (as_cons (ev_add (pv 2) ev_int) (as_cons (pv 1) as_nil rfl) rfl) rfl rfl) (tg_name (i := 3) sc_knot.nd rfl (by first | exact Or.inl rfl | exact Or.inr rfl) (.inl rfl)) (ss_one (st_for (ds := [4]) PassesOwn.never rfl (it_rg2 (by rfl) T.range (as_cons (ev_add (pv 3) ev_int) (as_cons (pv 1) as_nil rfl) rfl) rfl rfl) (tg_name (i := 4) sc_knot.nd rfl (by first | exact Or.inl rfl | exact Or.inr rfl) (.inl rfl)) (ss_one (st_if (tb_chain c_lt c_lt (ev_ix (pv 0) (pv 4) (fun _ _ => rfl)) (ev_ix (pv 0) (pv 2) (fun _ _ => rfl)) (ev_ix (pv 0) (pv 3) (fun _ _ => rfl)) (by with_unfolding_all rfl)) (ss_one (st_ret (ev_tup trivial (as_cons (ev_var 2 (pv 2)) (as_cons (ev_var 3 (pv 3)) (as_cons (ev_var 4 (pv 4)) as_nil rfl) rfl) rfl)))) ss_nil)) (fun _ => rfl))) (fun _ => rfl))) (fun _ => rfl))
    (ss_one (st_ret ev_non))))
abbrev S_moves : Stmt := top 2
theorem sc_moves : FnScope ["train", "wanted", "gone", "standing", "text", "tray"] ["train"] (defScope S_moves) := ⟨rfl, rfl, rfl, by decide +kernel, rfl, by decide +kernel, by decide +kernel⟩
theorem ok_moves (T : Blt mg) (D : Dd K mg "moves" S_moves ["train"])  : Pr P w K mg base "moves" 1 1 m_moves :=
  pr_ok (body := b_moves) D sc_moves fun f cdv A outer s H E hr =>
    (ss_cons (st_asg (i := 1) sc_moves.nd rfl (by first | exact Or.inl rfl | exact Or.inr rfl) (ev_of_nw (nw_blt (b_sort rfl hr.u100) (by rfl) T.sorted (as_cons (pv 0) as_nil rfl) rfl rfl)) rfl (.inl rfl))
    (ss_cons (st_asg (i := 2) sc_moves.nd rfl (by first | exact Or.inl rfl | exact Or.inr rfl) ev_int rfl (.inl rfl))
    (ss_cons (st_asgN (i := 3) sc_moves.nd rfl (by first | exact Or.inl rfl | exact Or.inr rfl) (nw_lst trivial as_nil) rfl (.inl rfl))
    (ss_cons (st_asg (i := 4) sc_moves.nd rfl (by first | exact Or.inl rfl | exact Or.inr rfl) (ev_str [] rfl) rfl (.inl rfl))
    (ss_cons (st_for (ds := [5]) PassesOwn.never rfl (it_seq (ev_var 0 (pv 0))) (tg_name (i := 5) sc_moves.nd rfl (by first | exact Or.inl rfl | exact Or.inr rfl) (.inl rfl)) (ss_cons (st_expr (ev_m m_app trivial (pv 3) (as_cons (ev_var 5 (pv 5)) as_nil rfl) rfl rfl rfl rfl rfl) rfl)
    (ss_cons (st_aug (i := 4) a_add sc_moves.nd rfl (by first | exact Or.inl rfl | exact Or.inr rfl) (ev_str [105] rfl) (.inl rfl))
    (ss_one (st_while (ds := []) 100000 PassesOwn.never (PW.pt (tw_and (tb_val (pv 3) (fun _ => rfl)) (tw_and1 (tb_cmp (c_eq hr.units) (ev_ix (pv 3) (ev_neg ev_int) (fun _ _ => rfl)) (ev_ix (pv 1) (pv 2) (fun _ _ => rfl)))))) (ss_cons (st_expr (ev_m0 m_pop (pv 3) rfl rfl) rfl)
    (ss_cons (st_aug (i := 2) a_add sc_moves.nd rfl (by first | exact Or.inl rfl | exact Or.inr rfl) ev_int (.inl rfl))
    (ss_one (st_aug (i := 4) a_add sc_moves.nd rfl (by first | exact Or.inl rfl | exact Or.inr rfl) (ev_str [111] rfl) (.inl rfl))))))))) (fun _ => rfl))
    (ss_one (st_ret (ev_if (tb_val (pv 3) (fun _ => rfl)) ev_non (ev_var 4 (pv 4))))))))))
abbrev S_can_pass : Stmt := top 3
theorem sc_can_pass : FnScope ["train"] ["train"] (defScope S_can_pass) := ⟨rfl, rfl, rfl, by decide +kernel, rfl, by decide +kernel, by decide +kernel⟩
theorem ok_can_pass (T : Blt mg) (D : Dd K mg "can_pass" S_can_pass ["train"]) (G_moves : Pr P w K mg base "moves" 1 1 m_moves) : Pr P w K mg base "can_pass" 2 1 m_can_pass :=
  pr_ok (body := b_can_pass) D sc_can_pass fun f cdv A outer s H E hr =>
    (ss_one (st_ret (ev_cmp c_notN (ev_callP G_moves hr (by decide) (by rfl) trivial (as_cons (ev_var 0 (pv 0)) as_nil rfl) (by decide) rfl rfl) ev_non)))
abbrev S_law_cell : Stmt := top 5
theorem sc_law_cell : FnScope ["script", "k"] ["script", "k"] (defScope S_law_cell) := ⟨rfl, rfl, rfl, by decide +kernel, rfl, by decide +kernel, by decide +kernel⟩
theorem ok_law_cell (T : Blt mg) (D : Dd K mg "_law_cell" S_law_cell ["script", "k"])  : Pr P w K mg base "_law_cell" 1 2 m_law_cell :=
  pr_ok (body := b_law_cell) D sc_law_cell fun f cdv A outer s H E hr =>
    (ss_cons (st_if (tb_cmp c_lt (pv 1) (ev_blt b_len (by rfl) T.len (as_cons (pv 0) as_nil rfl) rfl rfl)) (ss_one (st_ret (ev_ix (pv 0) (pv 1) (fun _ _ => rfl)))) ss_nil)
    (ss_one (st_ret (ev_add (ev_mul ev_int (pv 1)) ev_int))))
abbrev S_law_draws : Stmt := top 6
theorem sc_law_draws : FnScope ["cell", "count", "rest", "digits", "seed", "draws", "k", "mixed"] ["cell", "count"] (defScope S_law_draws) := ⟨rfl, rfl, rfl, by decide +kernel, rfl, by decide +kernel, by decide +kernel⟩
theorem ok_law_draws (T : Blt mg) (D : Dd K mg "_law_draws" S_law_draws ["cell", "count"])  : Pr P w K mg base "_law_draws" 1 2 m_law_draws :=
  pr_ok (body := b_law_draws) D sc_law_draws fun f cdv A outer s H E hr =>
    (ss_cons (st_asg (i := 2) sc_law_draws.nd rfl (by first | exact Or.inl rfl | exact Or.inr rfl) (ev_blt b_abs (by rfl) T.abs (as_cons (ev_blt b_int (by rfl) T.int (as_cons (pv 0) as_nil rfl) rfl rfl) as_nil rfl) rfl rfl) rfl (.inl rfl))
    (ss_cons (st_asg (i := 3) sc_law_draws.nd rfl (by first | exact Or.inl rfl | exact Or.inr rfl) (ev_cmp c_ge (pv 2) (ev_pow ev_int ev_int)) rfl (.inl rfl))
    (ss_cons (st_asg (i := 4) sc_law_draws.nd rfl (by first | exact Or.inl rfl | exact Or.inr rfl) (ev_var 2 (pv 2)) rfl (.inl rfl))
    (ss_cons (st_asgN (i := 5) sc_law_draws.nd rfl (by first | exact Or.inl rfl | exact Or.inr rfl) (nw_lst trivial as_nil) rfl (.inl rfl))
    (ss_cons (st_for (ds := [6, 7]) PassesOwn.never rfl (it_rg1 (by rfl) T.range (as_cons (pv 1) as_nil rfl) rfl) (tg_name (i := 6) sc_law_draws.nd rfl (by first | exact Or.inl rfl | exact Or.inr rfl) (.inl rfl)) (ss_one (st_kill [7] (st_if (PW.pt (tw_and (tb_val (pv 3) (fun _ => rfl)) (tw_and1 (tb_cmp c_gt (pv 2) ev_int)))) (ss_cons (st_expr (ev_m m_app trivial (pv 5) (as_cons (ev_mod (ev_blt b_int (by rfl) T.int (as_cons (pv 2) as_nil rfl) rfl rfl) ev_int) as_nil rfl) rfl rfl rfl rfl rfl) rfl)
    (ss_one (st_asg (i := 2) sc_law_draws.nd rfl (by first | exact Or.inl rfl | exact Or.inr rfl) (ev_fdiv (pv 2) ev_int) rfl (.inl rfl)))) (ss_cons (st_asg (i := 7) sc_law_draws.nd rfl (by first | exact Or.inl rfl | exact Or.inr rfl) (ev_mod (ev_blt b_int (by rfl) T.int (as_cons (ev_add (ev_add (ev_mul (pv 4) ev_int) (ev_mul (ev_add (pv 6) ev_int) ev_int)) ev_int) as_nil rfl) rfl rfl) ev_int) rfl (.inl rfl))
    (ss_cons (st_asg (i := 7) sc_law_draws.nd rfl (by first | exact Or.inl rfl | exact Or.inr rfl) (ev_mod (ev_blt b_int (by rfl) T.int (as_cons (ev_add (ev_mul (pv 7) (pv 7)) (ev_mul ev_int (ev_add (pv 6) ev_int))) as_nil rfl) rfl rfl) ev_int) rfl (.inl rfl))
    (ss_one (st_expr (ev_m m_app trivial (pv 5) (as_cons (ev_mod (ev_blt b_int (by rfl) T.int (as_cons (ev_fdiv (pv 7) ev_int) as_nil rfl) rfl rfl) ev_int) as_nil rfl) rfl rfl rfl rfl rfl) rfl))))))) (fun _ => rfl))
    (ss_one (st_ret (ev_var 5 (pv 5)))))))))
abbrev S_law_is_integer : Stmt := top 7
theorem sc_law_is_integer : FnScope ["value"] ["value"] (defScope S_law_is_integer) := ⟨rfl, rfl, rfl, by decide +kernel, rfl, by decide +kernel, by decide +kernel⟩
theorem ok_law_is_integer (T : Blt mg) (D : Dd K mg "_law_is_integer" S_law_is_integer ["value"])  : Pr P w K mg base "_law_is_integer" 1 1 m_law_is_integer :=
  pr_ok (body := b_law_is_integer) D sc_law_is_integer fun f cdv A outer s H E hr =>
    (ss_one (st_ret (ev_and (ev_isi t_int (by rfl) T.isinstance (by rfl) T.int (pv 0) rfl rfl rfl) (ev_one (ev_not (ev_isi t_bool (by rfl) T.isinstance (by rfl) T.bool (pv 0) rfl rfl rfl))))))
abbrev S_law_is : Stmt := top 8
theorem sc_law_is : FnScope ["value", "due", "at"] ["value", "due"] (defScope S_law_is) := ⟨rfl, rfl, rfl, by decide +kernel, rfl, by decide +kernel, by decide +kernel⟩
theorem ok_law_is (T : Blt mg) (D : Dd K mg "_law_is" S_law_is ["value", "due"]) (G_law_is_integer : Pr P w K mg base "_law_is_integer" 1 1 m_law_is_integer) : ∀ k, Pr P w K mg base "_law_is" (k + 2) 2 (m_law_is k)
  | 0 => pr_none D
  | k + 1 => by
    have Grec := ok_law_is T D G_law_is_integer k
    exact pr_ok (body := b_law_is (m_law_is k)) D sc_law_is fun f cdv A outer s H E hr =>
    (ss_cons (st_if (tb_cmp c_isN (pv 1) ev_non) (ss_one (st_ret (ev_cmp c_isN (pv 0) ev_non))) ss_nil)
    (ss_cons (st_if (tb_val (ev_isi t_bool (by rfl) T.isinstance (by rfl) T.bool (pv 1) rfl rfl rfl) (fun _ => rfl)) (ss_one (st_ret (ev_and (ev_isi t_bool (by rfl) T.isinstance (by rfl) T.bool (pv 0) rfl rfl rfl) (ev_one (ev_cmp (c_eq hr.units) (pv 0) (pv 1)))))) ss_nil)
    (ss_cons (st_if (tb_val (ev_isi t_int (by rfl) T.isinstance (by rfl) T.int (pv 1) rfl rfl rfl) (fun _ => rfl)) (ss_one (st_ret (ev_and (ev_callP G_law_is_integer hr (by omega) (by rfl) trivial (as_cons (ev_var 0 (pv 0)) as_nil rfl) (by decide) rfl rfl) (ev_one (ev_cmp (c_eq hr.units) (pv 0) (pv 1)))))) ss_nil)
    (ss_cons (st_if (tb_val (ev_isi t_str (by rfl) T.isinstance (by rfl) T.str (pv 1) rfl rfl rfl) (fun _ => rfl)) (ss_one (st_ret (ev_and (ev_isi t_str (by rfl) T.isinstance (by rfl) T.str (pv 0) rfl rfl rfl) (ev_one (ev_cmp (c_eq hr.units) (pv 0) (pv 1)))))) ss_nil)
    (ss_cons (st_if (PW.pt (tw_or (tb_not (tb_val (ev_isi t_tup (by rfl) T.isinstance (by rfl) T.tuple (pv 0) rfl rfl rfl) (fun _ => rfl))) (tw_or1 (tb_cmp (c_ne hr.units) (ev_blt b_len (by rfl) T.len (as_cons (pv 0) as_nil rfl) rfl rfl) (ev_blt b_len (by rfl) T.len (as_cons (pv 1) as_nil rfl) rfl rfl))))) (ss_one (st_ret ev_bl)) ss_nil)
    (ss_one (st_ret (ev_blt (b_all rfl) (by rfl) T.all (as_cons (ev_of_nw (nw_comp rfl sc_law_is.nd rfl (blkOk_by (own := [("at", 2)]) (N := ["value", "due", "at"]) (sc := defScope S_law_is) (by decide +kernel)) (it_rg1 (by rfl) T.range (as_cons (ev_blt b_len (by rfl) T.len (as_cons (pv 1) as_nil rfl) rfl rfl) as_nil rfl) rfl) (gok_name (by decide)) tYes_imp (fun _ _ _ _ _ => pg_name (i := 2) sc_law_is.nd rfl (Or.inl rfl)) (fun _ _ _ _ _ => pts_nil) (fun _ _ _ _ _ => (ev_callP Grec hr (by omega) (by rfl) trivial (as_cons (ev_ix (pv 0) (pv 2) (fun _ _ => rfl)) (as_cons (ev_ix (pv 1) (pv 2) (fun _ _ => rfl)) as_nil rfl) rfl) (by decide) rfl rfl)) (fun _ => rfl))) as_nil rfl) rfl rfl))))))))
abbrev S_law_moves : Stmt := top 9
theorem sc_law_moves : FnScope ["train", "wanted", "standing", "text", "tray"] ["train"] (defScope S_law_moves) := ⟨rfl, rfl, rfl, by decide +kernel, rfl, by decide +kernel, by decide +kernel⟩
theorem ok_law_moves (T : Blt mg) (D : Dd K mg "_law_moves" S_law_moves ["train"])  : Pr P w K mg base "_law_moves" 1 1 m_law_moves :=
  pr_ok (body := b_law_moves) D sc_law_moves fun f cdv A outer s H E hr =>
    (ss_cons (st_asgN (i := 1) sc_law_moves.nd rfl (by first | exact Or.inl rfl | exact Or.inr rfl) (nw_blt (b_sort rfl hr.u100) (by rfl) T.sorted (as_cons (pv 0) as_nil rfl) rfl rfl) rfl (.inl rfl))
    (ss_cons (st_asgN (i := 2) sc_law_moves.nd rfl (by first | exact Or.inl rfl | exact Or.inr rfl) (nw_lst trivial as_nil) rfl (.inl rfl))
    (ss_cons (st_asg (i := 3) sc_law_moves.nd rfl (by first | exact Or.inl rfl | exact Or.inr rfl) (ev_str [] rfl) rfl (.inl rfl))
    (ss_cons (st_for (ds := [4]) PassesOwn.never rfl (it_seq (ev_var 0 (pv 0))) (tg_name (i := 4) sc_law_moves.nd rfl (by first | exact Or.inl rfl | exact Or.inr rfl) (.inl rfl)) (ss_cons (st_expr (ev_m m_app trivial (pv 2) (as_cons (ev_var 4 (pv 4)) as_nil rfl) rfl rfl rfl rfl rfl) rfl)
    (ss_cons (st_asg (i := 3) sc_law_moves.nd rfl (by first | exact Or.inl rfl | exact Or.inr rfl) (ev_add (pv 3) (ev_str [105] rfl)) rfl (.inl rfl))
    (ss_one (st_while (ds := []) 100000 PassesOwn.never (PW.pt (tw_and (tb_cmp c_gt (ev_blt b_len (by rfl) T.len (as_cons (pv 2) as_nil rfl) rfl rfl) ev_int) (tw_and1 (tb_cmp (c_eq hr.units) (ev_ix (pv 2) (ev_neg ev_int) (fun _ _ => rfl)) (ev_ix (pv 1) ev_int (fun _ _ => rfl)))))) (ss_cons (st_expr (ev_m0 m_pop (pv 2) rfl rfl) rfl)
    (ss_cons (st_expr (ev_m m_popAt trivial (pv 1) (as_cons ev_int as_nil rfl) rfl rfl rfl rfl rfl) rfl)
    (ss_one (st_asg (i := 3) sc_law_moves.nd rfl (by first | exact Or.inl rfl | exact Or.inr rfl) (ev_add (pv 3) (ev_str [111] rfl)) rfl (.inl rfl))))))))) (fun _ => rfl))
    (ss_one (st_ret (ev_if (tb_cmp (c_eq hr.units) (ev_blt b_len (by rfl) T.len (as_cons (pv 2) as_nil rfl) rfl rfl) ev_int) (ev_var 3 (pv 3)) ev_non)))))))
abbrev S_law_knot : Stmt := top 10
theorem sc_law_knot : FnScope ["train", "i", "j", "less", "k"] ["train"] (defScope S_law_knot) := ⟨rfl, rfl, rfl, by decide +kernel, rfl, by decide +kernel, by decide +kernel⟩
theorem ok_law_knot (T : Blt mg) (D : Dd K mg "_law_knot" S_law_knot ["train"])  : Pr P w K mg base "_law_knot" 1 1 m_law_knot :=
  pr_ok (body := b_law_knot) D sc_law_knot fun f cdv A outer s H E hr =>
    (ss_cons (st_for (ds := [1, 2, 3]) PassesOwn.never rfl (it_rg1 (by rfl) T.range (as_cons (ev_blt b_len (by rfl) T.len (as_cons (pv 0) as_nil rfl) rfl rfl) as_nil rfl) rfl) (tg_name (i := 1) sc_law_knot.nd rfl (by first | exact Or.inl rfl | exact Or.inr rfl) (.inl rfl)) (ss_one (st_for (ds := [2, 3]) PassesOwn.never rfl (it_rg2 (by rfl) T.range (as_cons (ev_add (pv 1) ev_int) (as_cons (ev_blt b_len (by rfl) T.len (as_cons (pv 0) as_nil rfl) rfl rfl) as_nil rfl) rfl) rfl rfl) (tg_name (i := 2) sc_law_knot.nd rfl (by first | exact Or.inl rfl | exact Or.inr rfl) (.inl rfl)) (ss_cons (st_set (ps_nwev (ps_comp (i := 3) rfl sc_law_knot.nd rfl rfl (sw_true rfl rfl rfl (by decide +kernel)) rfl (blkOk_by (own := [("k", 4)]) (N := ["train", "i", "j", "less", "k"]) (sc := defScope S_law_knot) (by decide +kernel)) (it_rg2 (by rfl) T.range (as_cons (ev_add (pv 2) ev_int) (as_cons (ev_blt b_len (by rfl) T.len (as_cons (pv 0) as_nil rfl) rfl rfl) as_nil rfl) rfl) rfl rfl) (gok_name (by decide)) (fun _ _ _ q => q) (fun _ _ _ _ _ => pg_name (i := 4) sc_law_knot.nd rfl (Or.inl rfl)) (fun _ _ _ _ _ => pts_one (tb_chain c_lt c_lt (ev_ix (pv 0) (pv 4) (fun _ _ => rfl)) (ev_ix (pv 0) (pv 1) (fun _ _ => rfl)) (ev_ix (pv 0) (pv 2) (fun _ _ => rfl)) (by with_unfolding_all rfl))) (fun _ _ _ _ _ => (ev_var 4 (pv 4))) (fun _ => rfl))))
    (ss_one (st_if (tb_cmp c_gt (ev_blt b_len (by rfl) T.len (as_cons (pv 3) as_nil rfl) rfl rfl) ev_int) (ss_one (st_ret (ev_tup trivial (as_cons (ev_var 1 (pv 1)) (as_cons (ev_var 2 (pv 2)) (as_cons (ev_ix (pv 3) ev_int (fun _ _ => rfl)) as_nil rfl) rfl) rfl)))) ss_nil))) (fun _ => rfl))) (fun _ => rfl))
    (ss_one (st_ret ev_non)))
abbrev S_law_leaves : Stmt := top 11
theorem sc_law_leaves : FnScope ["train", "text", "standing", "gone", "come", "move"] ["train", "text"] (defScope S_law_leaves) := ⟨rfl, rfl, rfl, by decide +kernel, rfl, by decide +kernel, by decide +kernel⟩
theorem ok_law_leaves (T : Blt mg) (D : Dd K mg "_law_leaves" S_law_leaves ["train", "text"])  : Pr P w K mg base "_law_leaves" 1 2 m_law_leaves :=
  pr_ok (body := b_law_leaves) D sc_law_leaves fun f cdv A outer s H E hr =>
    (ss_cons (st_asgN (i := 2) sc_law_leaves.nd rfl (by first | exact Or.inl rfl | exact Or.inr rfl) (nw_lst trivial as_nil) rfl (.inl rfl))
    (ss_cons (st_asgN (i := 3) sc_law_leaves.nd rfl (by first | exact Or.inl rfl | exact Or.inr rfl) (nw_lst trivial as_nil) rfl (.inl rfl))
    (ss_cons (st_asg (i := 4) sc_law_leaves.nd rfl (by first | exact Or.inl rfl | exact Or.inr rfl) ev_int rfl (.inl rfl))
    (ss_cons (st_for (ds := [5]) PassesOwn.never rfl (it_seq (ev_var 1 (pv 1))) (tg_name (i := 5) sc_law_leaves.nd rfl (by first | exact Or.inl rfl | exact Or.inr rfl) (.inl rfl)) (ss_one (st_if (PW.pt (tw_and (tb_cmp (c_eq hr.units) (pv 5) (ev_str [105] rfl)) (tw_and1 (tb_cmp c_lt (pv 4) (ev_blt b_len (by rfl) T.len (as_cons (pv 0) as_nil rfl) rfl rfl))))) (ss_cons (st_expr (ev_m m_app trivial (pv 2) (as_cons (ev_ix (pv 0) (pv 4) (fun _ _ => rfl)) as_nil rfl) rfl rfl rfl rfl rfl) rfl)
    (ss_one (st_asg (i := 4) sc_law_leaves.nd rfl (by first | exact Or.inl rfl | exact Or.inr rfl) (ev_add (pv 4) ev_int) rfl (.inl rfl)))) (ss_one (st_if (PW.pt (tw_and (tb_cmp (c_eq hr.units) (pv 5) (ev_str [111] rfl)) (tw_and1 (tb_cmp c_gt (ev_blt b_len (by rfl) T.len (as_cons (pv 2) as_nil rfl) rfl rfl) ev_int)))) (ss_one (st_expr (ev_m m_app trivial (pv 3) (as_cons (ev_m0 m_pop (pv 2) rfl rfl) as_nil rfl) rfl rfl rfl rfl rfl) rfl)) (ss_one (st_ret ev_bl)))))) (fun _ => rfl))
    (ss_one (st_ret (ev_cmp (c_eq hr.units) (pv 3) (ev_of_nw (nw_blt (b_sort rfl hr.u100) (by rfl) T.sorted (as_cons (pv 0) as_nil rfl) rfl rfl)))))))))
abbrev S_law_train : Stmt := top 12
theorem sc_law_train : FnScope ["draws", "count", "way", "left", "found", "at", "place"] ["draws", "count", "way"] (defScope S_law_train) := ⟨rfl, rfl, rfl, by decide +kernel, rfl, by decide +kernel, by decide +kernel⟩
theorem ok_law_train (T : Blt mg) (D : Dd K mg "_law_train" S_law_train ["draws", "count", "way"])  : Pr P w K mg base "_law_train" 1 3 m_law_train :=
  pr_ok (body := b_law_train) D sc_law_train fun f cdv A outer s H E hr =>
    (ss_cons (st_asgN (i := 3) sc_law_train.nd rfl (by first | exact Or.inl rfl | exact Or.inr rfl) (nw_lrg rfl (by rfl) T.list (by rfl) T.range (ev_var 1 (pv 1)) rfl rfl) rfl (.inl rfl))
    (ss_cons (st_asgN (i := 4) sc_law_train.nd rfl (by first | exact Or.inl rfl | exact Or.inr rfl) (nw_lst trivial as_nil) rfl (.inl rfl))
    (ss_cons (st_for (ds := [5, 6]) PassesOwn.never rfl (it_rg1 (by rfl) T.range (as_cons (pv 1) as_nil rfl) rfl) (tg_name (i := 5) sc_law_train.nd rfl (by first | exact Or.inl rfl | exact Or.inr rfl) (.inl rfl)) (ss_cons (st_asg (i := 6) sc_law_train.nd rfl (by first | exact Or.inl rfl | exact Or.inr rfl) (ev_mod (ev_blt b_int (by rfl) T.int (as_cons (ev_ix (pv 0) (pv 5) (fun _ _ => rfl)) as_nil rfl) rfl rfl) (ev_blt b_len (by rfl) T.len (as_cons (pv 3) as_nil rfl) rfl rfl)) rfl (.inl rfl))
    (ss_cons (st_if (tb_cmp (c_eq hr.units) (pv 2) ev_int) (ss_one (st_asg (i := 6) sc_law_train.nd rfl (by first | exact Or.inl rfl | exact Or.inr rfl) (ev_blt (b_min2 rfl) (by rfl) T.min (as_cons (ev_sub (ev_blt b_len (by rfl) T.len (as_cons (pv 3) as_nil rfl) rfl rfl) ev_int) (as_cons (ev_mod (ev_blt b_int (by rfl) T.int (as_cons (ev_ix (pv 0) (pv 5) (fun _ _ => rfl)) as_nil rfl) rfl rfl) ev_int) as_nil rfl) rfl) rfl rfl) rfl (.inl rfl))) ss_nil)
    (ss_cons (st_if (tb_cmp (c_eq hr.units) (pv 2) ev_int) (ss_one (st_asg (i := 6) sc_law_train.nd rfl (by first | exact Or.inl rfl | exact Or.inr rfl) (ev_ix (ev_tup trivial (as_cons ev_int (as_cons (ev_sub (ev_blt b_len (by rfl) T.len (as_cons (pv 3) as_nil rfl) rfl rfl) ev_int) as_nil rfl) rfl)) (ev_mod (ev_blt b_int (by rfl) T.int (as_cons (ev_ix (pv 0) (pv 5) (fun _ _ => rfl)) as_nil rfl) rfl rfl) ev_int) (fun _ _ => rfl)) rfl (.inl rfl))) ss_nil)
    (ss_one (st_expr (ev_m m_app trivial (pv 4) (as_cons (ev_m m_popAt trivial (pv 3) (as_cons (ev_var 6 (pv 6)) as_nil rfl) rfl rfl rfl rfl rfl) as_nil rfl) rfl rfl rfl rfl rfl) rfl))))) (fun _ => rfl))
    (ss_one (st_ret (ev_blt b_tup (by rfl) T.tuple (as_cons (pv 4) as_nil rfl) rfl rfl))))))
abbrev S_law_right : Stmt := top 13
theorem sc_law_right : FnScope ["train", "due", "told"] ["train"] (defScope S_law_right) := ⟨rfl, rfl, rfl, by decide +kernel, rfl, by decide +kernel, by decide +kernel⟩
theorem ok_law_right (T : Blt mg) (D : Dd K mg "_law_right" S_law_right ["train"]) (G_law_moves : Pr P w K mg base "_law_moves" 1 1 m_law_moves) (G_moves : Pr P w K mg base "moves" 1 1 m_moves) (G_law_is : Pr P w K mg base "_law_is" 10 2 (m_law_is 8)) (G_law_knot : Pr P w K mg base "_law_knot" 1 1 m_law_knot) (G_can_pass : Pr P w K mg base "can_pass" 2 1 m_can_pass) (G_knot : Pr P w K mg base "knot" 1 1 m_knot) (G_law_leaves : Pr P w K mg base "_law_leaves" 1 2 m_law_leaves) : Pr P w K mg base "_law_right" 11 1 m_law_right :=
  pr_ok (body := b_law_right) D sc_law_right fun f cdv A outer s H E hr =>
    (ss_cons (st_asg (i := 1) sc_law_right.nd rfl (by first | exact Or.inl rfl | exact Or.inr rfl) (ev_callP G_law_moves hr (by decide) (by rfl) trivial (as_cons (ev_var 0 (pv 0)) as_nil rfl) (by decide) rfl rfl) rfl (.inl rfl))
    (ss_cons (st_if (tb_cmp (c_ne hr.units) (ev_cmp c_isN (pv 1) ev_non) (ev_cmp c_notN (ev_callP G_law_knot hr (by decide) (by rfl) trivial (as_cons (ev_var 0 (pv 0)) as_nil rfl) (by decide) rfl rfl) ev_non)) (ss_one (st_ret ev_bl)) ss_nil)
    (ss_cons (st_asg (i := 2) sc_law_right.nd rfl (by first | exact Or.inl rfl | exact Or.inr rfl) (ev_callP G_moves hr (by decide) (by rfl) trivial (as_cons (ev_var 0 (pv 0)) as_nil rfl) (by decide) rfl rfl) rfl (.inl rfl))
    (ss_cons (st_if (PW.pt (tw_or (tb_not (tb_val (ev_callP G_law_is hr (by decide) (by rfl) trivial (as_cons (ev_var 2 (pv 2)) (as_cons (ev_var 1 (pv 1)) as_nil rfl) rfl) (by decide) rfl rfl) (fun _ => rfl))) (tw_or1 (PW.pt (tw_and (tb_cmp c_notN (pv 1) ev_non) (tw_and1 (tb_not (tb_val (ev_callP G_law_leaves hr (by decide) (by rfl) trivial (as_cons (ev_var 0 (pv 0)) (as_cons (ev_var 2 (pv 2)) as_nil rfl) rfl) (by decide) rfl rfl) (fun _ => rfl))))))))) (ss_one (st_ret ev_bl)) ss_nil)
    (ss_one (st_ret (ev_and (ev_callP G_law_is hr (by decide) (by rfl) trivial (as_cons (ev_callP G_can_pass hr (by decide) (by rfl) trivial (as_cons (ev_var 0 (pv 0)) as_nil rfl) (by decide) rfl rfl) (as_cons (ev_cmp c_notN (pv 1) ev_non) as_nil rfl) rfl) (by decide) rfl rfl) (ev_one (ev_callP G_law_is hr (by decide) (by rfl) trivial (as_cons (ev_callP G_knot hr (by decide) (by rfl) trivial (as_cons (ev_var 0 (pv 0)) as_nil rfl) (by decide) rfl rfl) (as_cons (ev_callP G_law_knot hr (by decide) (by rfl) trivial (as_cons (ev_var 0 (pv 0)) as_nil rfl) (by decide) rfl rfl) as_nil rfl) rfl) (by decide) rfl rfl)))))))))
abbrev S_law : Stmt := top 14
theorem sc_law : FnScope ["script", "draws", "k", "count", "train", "spread", "tray"] ["script"] (defScope S_law) := ⟨rfl, rfl, rfl, by decide +kernel, rfl, by decide +kernel, by decide +kernel⟩
theorem ok_lawf (T : Blt mg) {fa : Addr} {fd : FuncData} (F : Fun K "law" "law" S_law fa fd) (G_law_draws : Pr P w K mg base "_law_draws" 1 2 m_law_draws) (G_law_cell : Pr P w K mg base "_law_cell" 1 2 m_law_cell) (G_law_train : Pr P w K mg base "_law_train" 1 3 m_law_train) (G_law_right : Pr P w K mg base "_law_right" 11 1 m_law_right) : FnOk P w K mg base CX0 12 fa fd ["script"] (spV K 1 m_law) :=
  fn_law (body := b_law) F sc_law fun f cdv A outer s H E hr =>
    (ss_cons (st_asg (i := 1) sc_law.nd rfl (by first | exact Or.inl rfl | exact Or.inr rfl) (ev_callP G_law_draws hr (by decide) (by rfl) trivial (as_cons (ev_callP G_law_cell hr (by decide) (by rfl) trivial (as_cons (ev_var 0 (pv 0)) (as_cons ev_int as_nil rfl) rfl) (by decide) rfl rfl) (as_cons ev_int as_nil rfl) rfl) (by decide) rfl rfl) rfl (.inl rfl))
    (ss_cons (st_for (ds := [2, 3, 4, 5]) PassesOwn.never rfl (it_rg1 (by rfl) T.range (as_cons ev_int as_nil rfl) rfl) (tg_name (i := 2) sc_law.nd rfl (by first | exact Or.inl rfl | exact Or.inr rfl) (.inl rfl)) (ss_cons (st_asg (i := 3) sc_law.nd rfl (by first | exact Or.inl rfl | exact Or.inr rfl) (ev_if (tb_cmp c_lt (ev_mod (ev_blt b_int (by rfl) T.int (as_cons (ev_ix (pv 1) ev_int (fun _ _ => rfl)) as_nil rfl) rfl rfl) ev_int) ev_int) (ev_ix (ev_tup trivial (as_cons ev_int (as_cons ev_int (as_cons ev_int (as_cons ev_int as_nil rfl) rfl) rfl) rfl)) (pv 2) (fun _ _ => rfl)) (ev_mod (ev_blt b_int (by rfl) T.int (as_cons (ev_ix (pv 1) (ev_add ev_int (pv 2)) (fun _ _ => rfl)) as_nil rfl) rfl rfl) ev_int)) rfl (.inl rfl))
    (ss_cons (st_asg (i := 4) sc_law.nd rfl (by first | exact Or.inl rfl | exact Or.inr rfl) (ev_callP G_law_train hr (by decide) (by rfl) trivial (as_cons (ev_callP G_law_draws hr (by decide) (by rfl) trivial (as_cons (ev_callP G_law_cell hr (by decide) (by rfl) trivial (as_cons (ev_var 0 (pv 0)) (as_cons (ev_add ev_int (pv 2)) as_nil rfl) rfl) (by decide) rfl rfl) (as_cons (ev_var 3 (pv 3)) as_nil rfl) rfl) (by decide) rfl rfl) (as_cons (ev_var 3 (pv 3)) (as_cons (ev_mod (ev_blt b_int (by rfl) T.int (as_cons (ev_ix (pv 1) (ev_add ev_int (pv 2)) (fun _ _ => rfl)) as_nil rfl) rfl rfl) ev_int) as_nil rfl) rfl) rfl) (by decide) rfl rfl) rfl (.inl rfl))
    (ss_cons (st_asg (i := 5) sc_law.nd rfl (by first | exact Or.inl rfl | exact Or.inr rfl) (ev_ix (ev_tup trivial (as_cons ev_int (as_cons (ev_pow ev_int ev_int) as_nil rfl) rfl)) (ev_mod (ev_blt b_int (by rfl) T.int (as_cons (ev_ix (pv 1) ev_int (fun _ _ => rfl)) as_nil rfl) rfl rfl) ev_int) (fun _ _ => rfl)) rfl (.inl rfl))
    (ss_cons (st_asg (i := 4) sc_law.nd rfl (by first | exact Or.inl rfl | exact Or.inr rfl) (ev_blt b_tup (by rfl) T.tuple (as_cons (ev_of_nw (nw_comp rfl sc_law.nd rfl (blkOk_by (own := [("tray", 6)]) (N := ["script", "draws", "k", "count", "train", "spread", "tray"]) (sc := defScope S_law) (by decide +kernel)) (it_seq (ev_var 4 (pv 4))) (gok_name (by decide)) tYes_imp (fun _ _ _ _ _ => pg_name (i := 6) sc_law.nd rfl (Or.inl rfl)) (fun _ _ _ _ _ => pts_nil) (fun _ _ _ _ _ => (ev_mul (ev_sub (pv 6) ev_int) (pv 5))) (fun _ => rfl))) as_nil rfl) rfl rfl) rfl (.inl rfl))
    (ss_one (st_if (PW.pt (tw_or (tb_not (tb_val (ev_callP G_law_right hr (by decide) (by rfl) trivial (as_cons (ev_var 4 (pv 4)) as_nil rfl) (by decide) rfl rfl) (fun _ => rfl))) (tw_or1 (tb_not (tb_val (ev_callP G_law_right hr (by decide) (by rfl) trivial (as_cons (ev_rev (pv 4)) as_nil rfl) (by decide) rfl rfl) (fun _ => rfl)))))) (ss_one (st_ret ev_bl)) ss_nil)))))) (fun _ => rfl))
    (ss_one (st_ret (ev_and (ev_callP G_law_right hr (by decide) (by rfl) trivial (as_cons (ev_tup trivial as_nil) as_nil rfl) (by decide) rfl rfl) (ev_and (ev_callP G_law_right hr (by decide) (by rfl) trivial (as_cons (ev_tup trivial (as_cons ev_int (as_cons ev_int (as_cons ev_int as_nil rfl) rfl) rfl)) as_nil rfl) (by decide) rfl rfl) (ev_and (ev_callP G_law_right hr (by decide) (by rfl) trivial (as_cons (ev_tup trivial (as_cons ev_int (as_cons ev_int (as_cons ev_int as_nil rfl) rfl) rfl)) as_nil rfl) (by decide) rfl rfl) (ev_one (ev_callP G_law_right hr (by decide) (by rfl) trivial (as_cons (ev_tup trivial (as_cons ev_int (as_cons ev_int (as_cons ev_int as_nil rfl) rfl) rfl)) as_nil rfl) (by decide) rfl rfl)))))))))
end
end Pv
namespace Pv
open PySem PySem.Spec PyProof.Rows L2
theorem all_mk {l : PySem.W.OpenLaw} {w : World} {K : PySem.W.Frag} {h : Heap} {mg : Str → Option Value} {fa : Addr} (X : K.In h) (G : h.Ns mainGlobals mg) (hfa : mg "law" = some (.ref fa))
    {f_knot : Addr} {od_knot an_knot : Option Addr} {sl_knot : Array (Option Value)} {oc_knot kV_knot dc_knot pm_knot cd_knot ct_knot : Value} (a_knot : PySem.W.nsIn K mainGlobals "knot" = some (some (.ref f_knot))) (l_knot : K.lookup f_knot = some ⟨oc_knot, od_knot, .func (PySem.W.fnOf "knot" "knot" (defArgs S_knot) (defBody S_knot) (defScope S_knot) .none kV_knot dc_knot pm_knot an_knot cd_knot ct_knot), sl_knot⟩) (c_knot : PySem.W.codeIn K cd_knot "knot" = true) (k_knot : PySem.W.keepIn K (.ref f_knot) = true)
    {f_moves : Addr} {od_moves an_moves : Option Addr} {sl_moves : Array (Option Value)} {oc_moves kV_moves dc_moves pm_moves cd_moves ct_moves : Value} (a_moves : PySem.W.nsIn K mainGlobals "moves" = some (some (.ref f_moves))) (l_moves : K.lookup f_moves = some ⟨oc_moves, od_moves, .func (PySem.W.fnOf "moves" "moves" (defArgs S_moves) (defBody S_moves) (defScope S_moves) .none kV_moves dc_moves pm_moves an_moves cd_moves ct_moves), sl_moves⟩) (c_moves : PySem.W.codeIn K cd_moves "moves" = true) (k_moves : PySem.W.keepIn K (.ref f_moves) = true)
    {f_can_pass : Addr} {od_can_pass an_can_pass : Option Addr} {sl_can_pass : Array (Option Value)} {oc_can_pass kV_can_pass dc_can_pass pm_can_pass cd_can_pass ct_can_pass : Value} (a_can_pass : PySem.W.nsIn K mainGlobals "can_pass" = some (some (.ref f_can_pass))) (l_can_pass : K.lookup f_can_pass = some ⟨oc_can_pass, od_can_pass, .func (PySem.W.fnOf "can_pass" "can_pass" (defArgs S_can_pass) (defBody S_can_pass) (defScope S_can_pass) .none kV_can_pass dc_can_pass pm_can_pass an_can_pass cd_can_pass ct_can_pass), sl_can_pass⟩) (c_can_pass : PySem.W.codeIn K cd_can_pass "can_pass" = true) (k_can_pass : PySem.W.keepIn K (.ref f_can_pass) = true)
    {f_law_cell : Addr} {od_law_cell an_law_cell : Option Addr} {sl_law_cell : Array (Option Value)} {oc_law_cell kV_law_cell dc_law_cell pm_law_cell cd_law_cell ct_law_cell : Value} (a_law_cell : PySem.W.nsIn K mainGlobals "_law_cell" = some (some (.ref f_law_cell))) (l_law_cell : K.lookup f_law_cell = some ⟨oc_law_cell, od_law_cell, .func (PySem.W.fnOf "_law_cell" "_law_cell" (defArgs S_law_cell) (defBody S_law_cell) (defScope S_law_cell) .none kV_law_cell dc_law_cell pm_law_cell an_law_cell cd_law_cell ct_law_cell), sl_law_cell⟩) (c_law_cell : PySem.W.codeIn K cd_law_cell "_law_cell" = true) (k_law_cell : PySem.W.keepIn K (.ref f_law_cell) = true)
    {f_law_draws : Addr} {od_law_draws an_law_draws : Option Addr} {sl_law_draws : Array (Option Value)} {oc_law_draws kV_law_draws dc_law_draws pm_law_draws cd_law_draws ct_law_draws : Value} (a_law_draws : PySem.W.nsIn K mainGlobals "_law_draws" = some (some (.ref f_law_draws))) (l_law_draws : K.lookup f_law_draws = some ⟨oc_law_draws, od_law_draws, .func (PySem.W.fnOf "_law_draws" "_law_draws" (defArgs S_law_draws) (defBody S_law_draws) (defScope S_law_draws) .none kV_law_draws dc_law_draws pm_law_draws an_law_draws cd_law_draws ct_law_draws), sl_law_draws⟩) (c_law_draws : PySem.W.codeIn K cd_law_draws "_law_draws" = true) (k_law_draws : PySem.W.keepIn K (.ref f_law_draws) = true)
    {f_law_is_integer : Addr} {od_law_is_integer an_law_is_integer : Option Addr} {sl_law_is_integer : Array (Option Value)} {oc_law_is_integer kV_law_is_integer dc_law_is_integer pm_law_is_integer cd_law_is_integer ct_law_is_integer : Value} (a_law_is_integer : PySem.W.nsIn K mainGlobals "_law_is_integer" = some (some (.ref f_law_is_integer))) (l_law_is_integer : K.lookup f_law_is_integer = some ⟨oc_law_is_integer, od_law_is_integer, .func (PySem.W.fnOf "_law_is_integer" "_law_is_integer" (defArgs S_law_is_integer) (defBody S_law_is_integer) (defScope S_law_is_integer) .none kV_law_is_integer dc_law_is_integer pm_law_is_integer an_law_is_integer cd_law_is_integer ct_law_is_integer), sl_law_is_integer⟩) (c_law_is_integer : PySem.W.codeIn K cd_law_is_integer "_law_is_integer" = true) (k_law_is_integer : PySem.W.keepIn K (.ref f_law_is_integer) = true)
    {f_law_is : Addr} {od_law_is an_law_is : Option Addr} {sl_law_is : Array (Option Value)} {oc_law_is kV_law_is dc_law_is pm_law_is cd_law_is ct_law_is : Value} (a_law_is : PySem.W.nsIn K mainGlobals "_law_is" = some (some (.ref f_law_is))) (l_law_is : K.lookup f_law_is = some ⟨oc_law_is, od_law_is, .func (PySem.W.fnOf "_law_is" "_law_is" (defArgs S_law_is) (defBody S_law_is) (defScope S_law_is) .none kV_law_is dc_law_is pm_law_is an_law_is cd_law_is ct_law_is), sl_law_is⟩) (c_law_is : PySem.W.codeIn K cd_law_is "_law_is" = true) (k_law_is : PySem.W.keepIn K (.ref f_law_is) = true)
    {f_law_moves : Addr} {od_law_moves an_law_moves : Option Addr} {sl_law_moves : Array (Option Value)} {oc_law_moves kV_law_moves dc_law_moves pm_law_moves cd_law_moves ct_law_moves : Value} (a_law_moves : PySem.W.nsIn K mainGlobals "_law_moves" = some (some (.ref f_law_moves))) (l_law_moves : K.lookup f_law_moves = some ⟨oc_law_moves, od_law_moves, .func (PySem.W.fnOf "_law_moves" "_law_moves" (defArgs S_law_moves) (defBody S_law_moves) (defScope S_law_moves) .none kV_law_moves dc_law_moves pm_law_moves an_law_moves cd_law_moves ct_law_moves), sl_law_moves⟩) (c_law_moves : PySem.W.codeIn K cd_law_moves "_law_moves" = true) (k_law_moves : PySem.W.keepIn K (.ref f_law_moves) = true)
    {f_law_knot : Addr} {od_law_knot an_law_knot : Option Addr} {sl_law_knot : Array (Option Value)} {oc_law_knot kV_law_knot dc_law_knot pm_law_knot cd_law_knot ct_law_knot : Value} (a_law_knot : PySem.W.nsIn K mainGlobals "_law_knot" = some (some (.ref f_law_knot))) (l_law_knot : K.lookup f_law_knot = some ⟨oc_law_knot, od_law_knot, .func (PySem.W.fnOf "_law_knot" "_law_knot" (defArgs S_law_knot) (defBody S_law_knot) (defScope S_law_knot) .none kV_law_knot dc_law_knot pm_law_knot an_law_knot cd_law_knot ct_law_knot), sl_law_knot⟩) (c_law_knot : PySem.W.codeIn K cd_law_knot "_law_knot" = true) (k_law_knot : PySem.W.keepIn K (.ref f_law_knot) = true)
    {f_law_leaves : Addr} {od_law_leaves an_law_leaves : Option Addr} {sl_law_leaves : Array (Option Value)} {oc_law_leaves kV_law_leaves dc_law_leaves pm_law_leaves cd_law_leaves ct_law_leaves : Value} (a_law_leaves : PySem.W.nsIn K mainGlobals "_law_leaves" = some (some (.ref f_law_leaves))) (l_law_leaves : K.lookup f_law_leaves = some ⟨oc_law_leaves, od_law_leaves, .func (PySem.W.fnOf "_law_leaves" "_law_leaves" (defArgs S_law_leaves) (defBody S_law_leaves) (defScope S_law_leaves) .none kV_law_leaves dc_law_leaves pm_law_leaves an_law_leaves cd_law_leaves ct_law_leaves), sl_law_leaves⟩) (c_law_leaves : PySem.W.codeIn K cd_law_leaves "_law_leaves" = true) (k_law_leaves : PySem.W.keepIn K (.ref f_law_leaves) = true)
    {f_law_train : Addr} {od_law_train an_law_train : Option Addr} {sl_law_train : Array (Option Value)} {oc_law_train kV_law_train dc_law_train pm_law_train cd_law_train ct_law_train : Value} (a_law_train : PySem.W.nsIn K mainGlobals "_law_train" = some (some (.ref f_law_train))) (l_law_train : K.lookup f_law_train = some ⟨oc_law_train, od_law_train, .func (PySem.W.fnOf "_law_train" "_law_train" (defArgs S_law_train) (defBody S_law_train) (defScope S_law_train) .none kV_law_train dc_law_train pm_law_train an_law_train cd_law_train ct_law_train), sl_law_train⟩) (c_law_train : PySem.W.codeIn K cd_law_train "_law_train" = true) (k_law_train : PySem.W.keepIn K (.ref f_law_train) = true)
    {f_law_right : Addr} {od_law_right an_law_right : Option Addr} {sl_law_right : Array (Option Value)} {oc_law_right kV_law_right dc_law_right pm_law_right cd_law_right ct_law_right : Value} (a_law_right : PySem.W.nsIn K mainGlobals "_law_right" = some (some (.ref f_law_right))) (l_law_right : K.lookup f_law_right = some ⟨oc_law_right, od_law_right, .func (PySem.W.fnOf "_law_right" "_law_right" (defArgs S_law_right) (defBody S_law_right) (defScope S_law_right) .none kV_law_right dc_law_right pm_law_right an_law_right cd_law_right ct_law_right), sl_law_right⟩) (c_law_right : PySem.W.codeIn K cd_law_right "_law_right" = true) (k_law_right : PySem.W.keepIn K (.ref f_law_right) = true)
    {f_law : Addr} {od_law an_law : Option Addr} {sl_law : Array (Option Value)} {oc_law kV_law dc_law pm_law cd_law ct_law : Value} (a_law : PySem.W.nsIn K mainGlobals "law" = some (some (.ref f_law))) (l_law : K.lookup f_law = some ⟨oc_law, od_law, .func (PySem.W.fnOf "law" "law" (defArgs S_law) (defBody S_law) (defScope S_law) .none kV_law dc_law pm_law an_law cd_law ct_law), sl_law⟩) (c_law : PySem.W.codeIn K cd_law "law" = true) (k_law : PySem.W.keepIn K (.ref f_law) = true)
    (z_len : PySem.W.nsIn K mainGlobals "len" = some none) (z_int : PySem.W.nsIn K mainGlobals "int" = some none) (z_abs : PySem.W.nsIn K mainGlobals "abs" = some none) (z_min : PySem.W.nsIn K mainGlobals "min" = some none) (z_max : PySem.W.nsIn K mainGlobals "max" = some none) (z_all : PySem.W.nsIn K mainGlobals "all" = some none) (z_any : PySem.W.nsIn K mainGlobals "any" = some none) (z_sum : PySem.W.nsIn K mainGlobals "sum" = some none) (z_tuple : PySem.W.nsIn K mainGlobals "tuple" = some none) (z_list : PySem.W.nsIn K mainGlobals "list" = some none) (z_sorted : PySem.W.nsIn K mainGlobals "sorted" = some none) (z_range : PySem.W.nsIn K mainGlobals "range" = some none) (z_isinstance : PySem.W.nsIn K mainGlobals "isinstance" = some none) (z_bool : PySem.W.nsIn K mainGlobals "bool" = some none) (z_str : PySem.W.nsIn K mainGlobals "str" = some none) (z_enumerate : PySem.W.nsIn K mainGlobals "enumerate" = some none) (z_zip : PySem.W.nsIn K mainGlobals "zip" = some none) (z_set : PySem.W.nsIn K mainGlobals "set" = some none) (z_dict : PySem.W.nsIn K mainGlobals "dict" = some none) :
    ∃ fd : FuncData, (∀ (s : Shared) (v : Value), BindsTo s fd ⟨[v], []⟩ [("script", v)]) ∧ ∀ base : Heap, K.In base → base.Ns mainGlobals mg → FnOk l.prog w K mg base CX0 12 fa fd ["script"] (spV K 1 m_law) := by
  have e := hfa.symm.trans (PySem.W.mg_of X G a_law)
  cases e
  have T : Blt mg := ⟨PySem.W.mg_none_of X G z_len, PySem.W.mg_none_of X G z_int, PySem.W.mg_none_of X G z_abs, PySem.W.mg_none_of X G z_min, PySem.W.mg_none_of X G z_max, PySem.W.mg_none_of X G z_all, PySem.W.mg_none_of X G z_any, PySem.W.mg_none_of X G z_sum, PySem.W.mg_none_of X G z_tuple, PySem.W.mg_none_of X G z_list, PySem.W.mg_none_of X G z_sorted, PySem.W.mg_none_of X G z_range, PySem.W.mg_none_of X G z_isinstance, PySem.W.mg_none_of X G z_bool, PySem.W.mg_none_of X G z_str, PySem.W.mg_none_of X G z_enumerate, PySem.W.mg_none_of X G z_zip, PySem.W.mg_none_of X G z_set, PySem.W.mg_none_of X G z_dict⟩
  have D_knot : Dd K mg "knot" S_knot ["train"] := dd_mk (fun_mk (st := S_knot) l_knot c_knot k_knot) (PySem.W.mg_of X G a_knot) ((fun_mk (st := S_knot) l_knot c_knot k_knot).binds (ps := ["train"]) fun _ _ _ _ _ _ us hl => match us, hl with | [_], _ => rfl)
  have D_moves : Dd K mg "moves" S_moves ["train"] := dd_mk (fun_mk (st := S_moves) l_moves c_moves k_moves) (PySem.W.mg_of X G a_moves) ((fun_mk (st := S_moves) l_moves c_moves k_moves).binds (ps := ["train"]) fun _ _ _ _ _ _ us hl => match us, hl with | [_], _ => rfl)
  have D_can_pass : Dd K mg "can_pass" S_can_pass ["train"] := dd_mk (fun_mk (st := S_can_pass) l_can_pass c_can_pass k_can_pass) (PySem.W.mg_of X G a_can_pass) ((fun_mk (st := S_can_pass) l_can_pass c_can_pass k_can_pass).binds (ps := ["train"]) fun _ _ _ _ _ _ us hl => match us, hl with | [_], _ => rfl)
  have D_law_cell : Dd K mg "_law_cell" S_law_cell ["script", "k"] := dd_mk (fun_mk (st := S_law_cell) l_law_cell c_law_cell k_law_cell) (PySem.W.mg_of X G a_law_cell) ((fun_mk (st := S_law_cell) l_law_cell c_law_cell k_law_cell).binds (ps := ["script", "k"]) fun _ _ _ _ _ _ us hl => match us, hl with | [_, _], _ => rfl)
  have D_law_draws : Dd K mg "_law_draws" S_law_draws ["cell", "count"] := dd_mk (fun_mk (st := S_law_draws) l_law_draws c_law_draws k_law_draws) (PySem.W.mg_of X G a_law_draws) ((fun_mk (st := S_law_draws) l_law_draws c_law_draws k_law_draws).binds (ps := ["cell", "count"]) fun _ _ _ _ _ _ us hl => match us, hl with | [_, _], _ => rfl)
  have D_law_is_integer : Dd K mg "_law_is_integer" S_law_is_integer ["value"] := dd_mk (fun_mk (st := S_law_is_integer) l_law_is_integer c_law_is_integer k_law_is_integer) (PySem.W.mg_of X G a_law_is_integer) ((fun_mk (st := S_law_is_integer) l_law_is_integer c_law_is_integer k_law_is_integer).binds (ps := ["value"]) fun _ _ _ _ _ _ us hl => match us, hl with | [_], _ => rfl)
  have D_law_is : Dd K mg "_law_is" S_law_is ["value", "due"] := dd_mk (fun_mk (st := S_law_is) l_law_is c_law_is k_law_is) (PySem.W.mg_of X G a_law_is) ((fun_mk (st := S_law_is) l_law_is c_law_is k_law_is).binds (ps := ["value", "due"]) fun _ _ _ _ _ _ us hl => match us, hl with | [_, _], _ => rfl)
  have D_law_moves : Dd K mg "_law_moves" S_law_moves ["train"] := dd_mk (fun_mk (st := S_law_moves) l_law_moves c_law_moves k_law_moves) (PySem.W.mg_of X G a_law_moves) ((fun_mk (st := S_law_moves) l_law_moves c_law_moves k_law_moves).binds (ps := ["train"]) fun _ _ _ _ _ _ us hl => match us, hl with | [_], _ => rfl)
  have D_law_knot : Dd K mg "_law_knot" S_law_knot ["train"] := dd_mk (fun_mk (st := S_law_knot) l_law_knot c_law_knot k_law_knot) (PySem.W.mg_of X G a_law_knot) ((fun_mk (st := S_law_knot) l_law_knot c_law_knot k_law_knot).binds (ps := ["train"]) fun _ _ _ _ _ _ us hl => match us, hl with | [_], _ => rfl)
  have D_law_leaves : Dd K mg "_law_leaves" S_law_leaves ["train", "text"] := dd_mk (fun_mk (st := S_law_leaves) l_law_leaves c_law_leaves k_law_leaves) (PySem.W.mg_of X G a_law_leaves) ((fun_mk (st := S_law_leaves) l_law_leaves c_law_leaves k_law_leaves).binds (ps := ["train", "text"]) fun _ _ _ _ _ _ us hl => match us, hl with | [_, _], _ => rfl)
  have D_law_train : Dd K mg "_law_train" S_law_train ["draws", "count", "way"] := dd_mk (fun_mk (st := S_law_train) l_law_train c_law_train k_law_train) (PySem.W.mg_of X G a_law_train) ((fun_mk (st := S_law_train) l_law_train c_law_train k_law_train).binds (ps := ["draws", "count", "way"]) fun _ _ _ _ _ _ us hl => match us, hl with | [_, _, _], _ => rfl)
  have D_law_right : Dd K mg "_law_right" S_law_right ["train"] := dd_mk (fun_mk (st := S_law_right) l_law_right c_law_right k_law_right) (PySem.W.mg_of X G a_law_right) ((fun_mk (st := S_law_right) l_law_right c_law_right k_law_right).binds (ps := ["train"]) fun _ _ _ _ _ _ us hl => match us, hl with | [_], _ => rfl)
  refine ⟨PySem.W.fnOf "law" "law" (defArgs S_law) (defBody S_law) (defScope S_law) .none kV_law dc_law pm_law an_law cd_law ct_law, fun s v => .of_eq rfl, fun base _ _ => ?_⟩
  have G_knot : Pr l.prog w K mg base "knot" 1 1 m_knot := ok_knot T D_knot 
  have G_moves : Pr l.prog w K mg base "moves" 1 1 m_moves := ok_moves T D_moves 
  have G_can_pass : Pr l.prog w K mg base "can_pass" 2 1 m_can_pass := ok_can_pass T D_can_pass G_moves
  have G_law_cell : Pr l.prog w K mg base "_law_cell" 1 2 m_law_cell := ok_law_cell T D_law_cell 
  have G_law_draws : Pr l.prog w K mg base "_law_draws" 1 2 m_law_draws := ok_law_draws T D_law_draws 
  have G_law_is_integer : Pr l.prog w K mg base "_law_is_integer" 1 1 m_law_is_integer := ok_law_is_integer T D_law_is_integer 
  have G_law_is : Pr l.prog w K mg base "_law_is" 10 2 (m_law_is 8) := ok_law_is T D_law_is G_law_is_integer 8
  have G_law_moves : Pr l.prog w K mg base "_law_moves" 1 1 m_law_moves := ok_law_moves T D_law_moves 
  have G_law_knot : Pr l.prog w K mg base "_law_knot" 1 1 m_law_knot := ok_law_knot T D_law_knot 
  have G_law_leaves : Pr l.prog w K mg base "_law_leaves" 1 2 m_law_leaves := ok_law_leaves T D_law_leaves 
  have G_law_train : Pr l.prog w K mg base "_law_train" 1 3 m_law_train := ok_law_train T D_law_train 
  have G_law_right : Pr l.prog w K mg base "_law_right" 11 1 m_law_right := ok_law_right T D_law_right G_law_moves G_moves G_law_is G_law_knot G_can_pass G_knot G_law_leaves
  exact ok_lawf T (fun_mk (st := S_law) l_law c_law k_law) G_law_draws G_law_cell G_law_train G_law_right
theorem walk {l : PySem.W.OpenLaw} {q : Program} {loose : List Str} {XP : (Str → Option Value) → Heap → Prop} {YP : World → Heap → Prop} {d : DefRec} {K : Params → PySem.W.Frag} (hn : l.most = some 63) (hdf : d.params.defaults = [])
    (hY : ∀ (w : World) (h : Heap), YP w h → (K w.params).In h)
    (F : ∀ (w : World) (mg : Str → Option Value) (fa : Addr) (h : Heap), (K w.params).In h → h.Ns mainGlobals mg → mg d.name = some (.ref fa) →
      ∃ fd : FuncData, (∀ (s : Shared) (u : Value), BindsTo s fd ⟨[u], []⟩ [("script", u)]) ∧ ∀ base : Heap, (K w.params).In base → base.Ns mainGlobals mg → FnOk l.prog w (K w.params) mg base CX0 12 fa fd ["script"] (spV (K w.params) 1 m_law)) 
    (M : ∀ ns : List Int, ns.length ≤ 63 → m_law [.scr ns] = some (.bl true)) :
    PySem.W.WalkO q loose XP YP l.row.toRowW d [] (fun f vs => PySem.call f vs) :=
  L2.walk_of (n := 63) (k := 12) (x := "script") (CX := fun _ => CX0) (sp := fun w => spV (K w.params) 1 m_law) hn (by decide) hdf ⟨rfl, by decide, by decide⟩ hY F (fun _ _ a ns hl _ hS => sp_law (M ns hl) hS fun _ => rfl) fun _ _ _ _ _ z => z
end Pv

open PySem PySem.W PyProof.Rows in
set_option maxRecDepth 100000 in
set_option maxHeartbeats 0 in
theorem PySem.Challenge.cw_allmails_k22_whole_sidings_or_knots_holds : PySem.Challenge.rw_allmails_k22_whole_sidings_or_knots.Holds := by
  w_on; o_law; k_head; (case hw => w_witness2)
  k_fill
  refine Pv.walk (l := PySem.Challenge.rw_allmails_k22_whole_sidings_or_knots) rfl rfl (fun w h Y => PySem.W.kIn_of Y) ?F Pv.law_true
  case F =>
    intro w mg fa h KX G hmg
    refine' Pv.all_mk KX G hmg ?a_knot ?l_knot ?c_knot ?k_knot ?a_moves ?l_moves ?c_moves ?k_moves ?a_can_pass ?l_can_pass ?c_can_pass ?k_can_pass ?a_law_cell ?l_law_cell ?c_law_cell ?k_law_cell ?a_law_draws ?l_law_draws ?c_law_draws ?k_law_draws ?a_law_is_integer ?l_law_is_integer ?c_law_is_integer ?k_law_is_integer ?a_law_is ?l_law_is ?c_law_is ?k_law_is ?a_law_moves ?l_law_moves ?c_law_moves ?k_law_moves ?a_law_knot ?l_law_knot ?c_law_knot ?k_law_knot ?a_law_leaves ?l_law_leaves ?c_law_leaves ?k_law_leaves ?a_law_train ?l_law_train ?c_law_train ?k_law_train ?a_law_right ?l_law_right ?c_law_right ?k_law_right ?a_law ?l_law ?c_law ?k_law ?z_len ?z_int ?z_abs ?z_min ?z_max ?z_all ?z_any ?z_sum ?z_tuple ?z_list ?z_sorted ?z_range ?z_isinstance ?z_bool ?z_str ?z_enumerate ?z_zip ?z_set ?z_dict
    (case a_knot => k_is)
    (case l_knot => k_is)
    (case c_knot => k_is)
    (case k_knot => k_is)
    (case a_moves => k_is)
    (case l_moves => k_is)
    (case c_moves => k_is)
    (case k_moves => k_is)
    (case a_can_pass => k_is)
    (case l_can_pass => k_is)
    (case c_can_pass => k_is)
    (case k_can_pass => k_is)
    (case a_law_cell => k_is)
    (case l_law_cell => k_is)
    (case c_law_cell => k_is)
    (case k_law_cell => k_is)
    (case a_law_draws => k_is)
    (case l_law_draws => k_is)
    (case c_law_draws => k_is)
    (case k_law_draws => k_is)
    (case a_law_is_integer => k_is)
    (case l_law_is_integer => k_is)
    (case c_law_is_integer => k_is)
    (case k_law_is_integer => k_is)
    (case a_law_is => k_is)
    (case l_law_is => k_is)
    (case c_law_is => k_is)
    (case k_law_is => k_is)
    (case a_law_moves => k_is)
    (case l_law_moves => k_is)
    (case c_law_moves => k_is)
    (case k_law_moves => k_is)
    (case a_law_knot => k_is)
    (case l_law_knot => k_is)
    (case c_law_knot => k_is)
    (case k_law_knot => k_is)
    (case a_law_leaves => k_is)
    (case l_law_leaves => k_is)
    (case c_law_leaves => k_is)
    (case k_law_leaves => k_is)
    (case a_law_train => k_is)
    (case l_law_train => k_is)
    (case c_law_train => k_is)
    (case k_law_train => k_is)
    (case a_law_right => k_is)
    (case l_law_right => k_is)
    (case c_law_right => k_is)
    (case k_law_right => k_is)
    (case a_law => k_is)
    (case l_law => k_is)
    (case c_law => k_is)
    (case k_law => k_is)
    (case z_len => k_is)
    (case z_int => k_is)
    (case z_abs => k_is)
    (case z_min => k_is)
    (case z_max => k_is)
    (case z_all => k_is)
    (case z_any => k_is)
    (case z_sum => k_is)
    (case z_tuple => k_is)
    (case z_list => k_is)
    (case z_sorted => k_is)
    (case z_range => k_is)
    (case z_isinstance => k_is)
    (case z_bool => k_is)
    (case z_str => k_is)
    (case z_enumerate => k_is)
    (case z_zip => k_is)
    (case z_set => k_is)
    (case z_dict => k_is)
