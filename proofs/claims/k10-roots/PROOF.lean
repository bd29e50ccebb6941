import PyProof.Rows.All
import Wide.All
import OpenK.AllK
import Wide.FinOn
import PyProof.StrOps2
import HandS.ForMost
import HandS.ForExc
import HandS.Wide
import HandS.WideBits
import HandS.IsInst
import KE.DataEq
import HandS.Flow
import HandS.MakeKw
import KE.IntTextLaws
import PySem.Challenge.RW_tenreckon_k10_roots
set_option Elab.async false
set_option linter.all false
set_option maxRecDepth 100000
set_option maxHeartbeats 4000000
set_option exponentiation.threshold 40000
/-! The layer over the hand layer: values without addresses. What nobody writes (texts, tuples, lists that are not changed, instances that are not changed) stands inline; what is written stands in Mem, by its address. -/
namespace TQ
open PySem PySem.Spec PyProof.Rows L2

inductive PV where
  | non | bl (b : Bool) | int (i : Int) | str (x : Str)
  | tup (xs : List PV) | lst (xs : List PV) | scr (ns : List Int)
  | obj (C : Addr) (ns : List Str) (vs : List PV)
  | ref (a : Addr) | ty (n : String)

/-- what is written -/
inductive MO where
  | lst (xs : List PV) | dic (ks : List Key) (vs : List PV) | ins (C : Addr) (ns : List Str) (vs : List PV)
abbrev Mem := Addr → Option MO
def mset (M : Mem) (a : Addr) (o : MO) : Mem := fun b => if b = a then some o else M b
theorem mset_same {M : Mem} {a : Addr} {o : MO} : mset M a o a = some o := if_pos rfl
theorem mset_ne {M : Mem} {a b : Addr} {o : MO} (h : b ≠ a) : mset M a o b = M b := if_neg h

mutual
def Rep (K : PySem.W.Frag) (G : Hp) : PV → V → Prop
  | .non, v => v = .non
  | .bl b, v => v = .bl b
  | .int i, v => v = .int i
  | .str x, v => v = .str x
  | .tup xs, v => ∃ a vs, v = .ref a ∧ SqT K G a vs ∧ Reps K G xs vs
  | .lst xs, v => ∃ a vs, v = .ref a ∧ G a = some (.lst vs) ∧ Reps K G xs vs
  | .scr ns, v => ∃ a, v = .ref a ∧ SqL K G a (ns.map V.int)
  | .obj C ns xs, v => ∃ a dx vs, v = .ref a ∧ G a = some (.ins C dx (ns.zip vs)) ∧ Reps K G xs vs
  | .ref a, v => v = .ref a
  | .ty n, v => v = .ty n
def Reps (K : PySem.W.Frag) (G : Hp) : List PV → List V → Prop
  | [], vs => vs = []
  | x :: xs, vs => ∃ v ws, vs = v :: ws ∧ Rep K G x v ∧ Reps K G xs ws
end

def Ext (G G' : Hp) : Prop := ∀ a o, G a = some o → G' a = some o
theorem Ext.refl (G : Hp) : Ext G G := fun _ _ h => h
theorem Ext.trans {G G1 G2 : Hp} (a : Ext G G1) (b : Ext G1 G2) : Ext G G2 := fun x o h => b x o (a x o h)
theorem Ext.new {G : Hp} {p : Addr} {o : HO} (h : G p = none) : Ext G (upd G p o) := fun a u e => by
  rw [upd_ne (ne_of_none e h)]; exact e
theorem ext_rd {H H' : Hp} {a : Addr} {u : HO} (e : Ext H H') (h : Rd H a u) : Rd H' a u := by
  rcases h with h | ⟨o, h⟩
  · exact .inl (e a _ h)
  · exact .inr ⟨o, e a _ h⟩
theorem ext_t {K : PySem.W.Frag} {H H' : Hp} {a : Addr} {xs : List V} (e : Ext H H') (h : SqT K H a xs) : SqT K H' a xs := by
  rcases h with h | h
  · exact .inl (ext_rd e h)
  · exact .inr h
theorem ext_l {K : PySem.W.Frag} {H H' : Hp} {a : Addr} {xs : List V} (e : Ext H H') (h : SqL K H a xs) : SqL K H' a xs := by
  rcases h with h | h
  · exact .inl (ext_rd e h)
  · exact .inr h

section
variable {K : PySem.W.Frag} {G G' : Hp}
mutual
theorem Rep.mono (e : Ext G G') : ∀ (x : PV) (v : V), Rep K G x v → Rep K G' x v
  | .non, _, h => h
  | .bl _, _, h => h
  | .int _, _, h => h
  | .str _, _, h => h
  | .tup xs, _, h => by
    obtain ⟨a, vs, h1, h2, h3⟩ := h
    exact ⟨a, vs, h1, ext_t e h2, Reps.mono e xs vs h3⟩
  | .lst xs, _, h => by
    obtain ⟨a, vs, h1, h2, h3⟩ := h
    exact ⟨a, vs, h1, e _ _ h2, Reps.mono e xs vs h3⟩
  | .scr ns, _, h => by
    obtain ⟨a, h1, h2⟩ := h
    exact ⟨a, h1, ext_l e h2⟩
  | .obj C ns xs, _, h => by
    obtain ⟨a, dx, vs, h1, h2, h3⟩ := h
    exact ⟨a, dx, vs, h1, e _ _ h2, Reps.mono e xs vs h3⟩
  | .ref _, _, h => h
  | .ty _, _, h => h
theorem Reps.mono (e : Ext G G') : ∀ (xs : List PV) (vs : List V), Reps K G xs vs → Reps K G' xs vs
  | [], _, h => h
  | x :: xs, _, h => by
    obtain ⟨v, ws, h1, h2, h3⟩ := h
    exact ⟨v, ws, h1, Rep.mono e x v h2, Reps.mono e xs ws h3⟩
end
theorem Reps.length : ∀ {xs : List PV} {vs : List V}, Reps K G xs vs → xs.length = vs.length
  | [], _, h => by cases h; rfl
  | x :: xs, _, h => by
    obtain ⟨v, ws, rfl, _, h3⟩ := h
    simp [Reps.length h3]
theorem Reps.get : ∀ {xs : List PV} {vs : List V} {i : Nat} {x : PV}, Reps K G xs vs → xs[i]? = some x → ∃ v, vs[i]? = some v ∧ Rep K G x v
  | [], _, _, _, _, e => by simp at e
  | x :: xs, _, 0, y, h, e => by
    obtain ⟨v, ws, rfl, h2, h3⟩ := h
    simp at e
    subst e
    exact ⟨v, rfl, h2⟩
  | x :: xs, _, i + 1, y, h, e => by
    obtain ⟨v, ws, rfl, h2, h3⟩ := h
    obtain ⟨u, q1, q2⟩ := Reps.get h3 (by simpa using e)
    exact ⟨u, by simpa using q1, q2⟩
theorem Reps.getV : ∀ {xs : List PV} {vs : List V} {i : Nat} {v : V}, Reps K G xs vs → vs[i]? = some v → ∃ x, xs[i]? = some x ∧ Rep K G x v
  | [], _, _, _, h, e => by cases h; simp at e
  | x :: xs, _, 0, y, h, e => by
    obtain ⟨v, ws, rfl, h2, h3⟩ := h
    simp at e
    subst e
    exact ⟨x, rfl, h2⟩
  | x :: xs, _, i + 1, y, h, e => by
    obtain ⟨v, ws, rfl, h2, h3⟩ := h
    obtain ⟨u, q1, q2⟩ := Reps.getV h3 (by simpa using e)
    exact ⟨u, by simpa using q1, q2⟩
theorem Reps.append : ∀ {xs ys : List PV} {vs ws : List V}, Reps K G xs vs → Reps K G ys ws → Reps K G (xs ++ ys) (vs ++ ws)
  | [], _, _, _, h, q => by cases h; exact q
  | x :: xs, _, _, _, h, q => by
    obtain ⟨v, ws, rfl, h2, h3⟩ := h
    exact ⟨v, _, rfl, h2, Reps.append h3 q⟩
theorem Reps.one {x : PV} {v : V} (h : Rep K G x v) : Reps K G [x] [v] := ⟨v, [], rfl, h, rfl⟩
theorem Reps.cons {x : PV} {v : V} {xs : List PV} {vs : List V} (h : Rep K G x v) (q : Reps K G xs vs) : Reps K G (x :: xs) (v :: vs) := ⟨v, vs, rfl, h, q⟩
theorem Reps.nil : Reps K G [] [] := rfl
theorem Reps.set : ∀ {xs : List PV} {vs : List V} {x : PV} {v : V} (i : Nat), Reps K G xs vs → Rep K G x v → Reps K G (xs.set i x) (vs.set i v)
  | [], _, _, _, _, h, _ => by cases h; exact Reps.nil
  | y :: xs, _, x, v, 0, h, q => by
    obtain ⟨w, ws, rfl, h2, h3⟩ := h
    exact Reps.cons q h3
  | y :: xs, _, x, v, i + 1, h, q => by
    obtain ⟨w, ws, rfl, h2, h3⟩ := h
    exact Reps.cons h2 (Reps.set i h3 q)
theorem Reps.drop : ∀ {xs : List PV} {vs : List V} (n : Nat), Reps K G xs vs → Reps K G (xs.drop n) (vs.drop n)
  | xs, vs, 0, h => h
  | [], _, n + 1, h => by cases h; exact Reps.nil
  | x :: xs, _, n + 1, h => by
    obtain ⟨v, ws, rfl, h2, h3⟩ := h
    exact Reps.drop n h3
theorem Reps.take : ∀ {xs : List PV} {vs : List V} (n : Nat), Reps K G xs vs → Reps K G (xs.take n) (vs.take n)
  | xs, vs, 0, h => Reps.nil
  | [], _, n + 1, h => by cases h; exact Reps.nil
  | x :: xs, _, n + 1, h => by
    obtain ⟨v, ws, rfl, h2, h3⟩ := h
    exact Reps.cons h2 (Reps.take n h3)
theorem Reps.ints : ∀ (ns : List Int), Reps K G (ns.map PV.int) (ns.map V.int)
  | [] => Reps.nil
  | n :: ns => Reps.cons rfl (Reps.ints ns)
end

def MOk (K : PySem.W.Frag) (G H : Hp) (a : Addr) : MO → Prop
  | .lst xs => ∃ vs, H a = some (.lst vs) ∧ Reps K G xs vs
  | .dic ks xs => ∃ vs, H a = some (.dK (ks.zip vs)) ∧ ks.length = vs.length ∧ Reps K G xs vs
  | .ins C ns xs => ∃ dx vs, H a = some (.ins C dx (ns.zip vs)) ∧ Reps K G xs vs

structure Wf (K : PySem.W.Frag) (M : Mem) (H G : Hp) : Prop where
  sub : Ext G H
  mem : ∀ a m, M a = some m → G a = none ∧ MOk K G H a m

/-- local names -/
abbrev Sl := List (Option PV)
structure EnvR (K : PySem.W.Frag) (G : Hp) (env : Sl) (σ : L2.St) : Prop where
  len : env.length = σ.length
  get : ∀ (i : Nat) (x : PV), env[i]? = some (some x) → ∃ v, σ[i]? = some (some v) ∧ Rep K G x v
structure Sim (K : PySem.W.Frag) (env : Sl) (M : Mem) (G : Hp) (σ : L2.St) (H : Hp) : Prop where
  env : EnvR K G env σ
  wf : Wf K M H G

section
variable {K : PySem.W.Frag} {G G' H H' : Hp} {M M' : Mem} {env : Sl} {σ : L2.St}
theorem EnvR.mono (e : Ext G G') (h : EnvR K G env σ) : EnvR K G' env σ := ⟨h.len, fun i x q => by
  obtain ⟨v, q1, q2⟩ := h.get i x q
  exact ⟨v, q1, Rep.mono e x v q2⟩⟩
theorem EnvR.set {i : Nat} {x : PV} {v : V} (h : EnvR K G env σ) (q : Rep K G x v) : EnvR K G (env.set i (some x)) (σ.set i (some v)) := by
  refine ⟨by simp [h.len], fun j y e => ?_⟩
  by_cases hj : i = j
  · subst hj
    rw [List.getElem?_set] at e ⊢
    rw [if_pos rfl] at e ⊢
    split at e
    · rename_i hl
      rw [if_pos (by rw [← h.len]; exact hl)]
      cases e
      exact ⟨v, rfl, q⟩
    · cases e
  · rw [List.getElem?_set_ne hj] at e ⊢
    exact h.get j y e
theorem Sim.to (s : Sim K env M G σ H) (e : Ext G G') (w : Wf K M' H' G') : Sim K env M' G' σ H' := ⟨s.env.mono e, w⟩
theorem Sim.set {i : Nat} {x : PV} {v : V} (s : Sim K env M G σ H) (q : Rep K G x v) : Sim K (env.set i (some x)) M G (σ.set i (some v)) H := ⟨s.env.set q, s.wf⟩
theorem MOk.mono {a : Addr} (e : Ext G G') (hh : H' a = H a) : ∀ {m : MO}, MOk K G H a m → MOk K G' H' a m := fun {m} h => by
  cases m with
  | lst xs => obtain ⟨vs, h1, h2⟩ := h; exact ⟨vs, hh.trans h1, Reps.mono e _ _ h2⟩
  | dic ks xs => obtain ⟨vs, h1, h2, h3⟩ := h; exact ⟨vs, hh.trans h1, h2, Reps.mono e _ _ h3⟩
  | ins C ns xs => obtain ⟨dx, vs, h1, h2⟩ := h; exact ⟨dx, vs, hh.trans h1, Reps.mono e _ _ h2⟩
theorem MOk.some {a : Addr} {m : MO} (h : MOk K G H a m) : ∃ o, H a = some o := by
  cases m with
  | lst xs => obtain ⟨vs, h1, h2⟩ := h; exact ⟨_, h1⟩
  | dic ks xs => obtain ⟨vs, h1, h2⟩ := h; exact ⟨_, h1⟩
  | ins C ns xs => obtain ⟨dx, vs, h1, h2⟩ := h; exact ⟨_, h1⟩
theorem Wf.free {p : Addr} (w : Wf K M H G) (h : H p = none) : G p = none := by
  cases q : G p with
  | none => rfl
  | some o => rw [w.sub p o q] at h; cases h
theorem Wf.freeM {p : Addr} (w : Wf K M H G) (h : H p = none) : M p = none := by
  cases q : M p with
  | none => rfl
  | some m =>
    obtain ⟨o, z⟩ := (w.mem p m q).2.some
    rw [z] at h; cases h
/-- a new thing that nobody writes -/
theorem Wf.newG {p : Addr} {o : HO} (w : Wf K M H G) (h : H p = none) : Wf K M (upd H p o) (upd G p o) := by
  have hg := w.free h
  refine ⟨fun a u e => ?_, fun a m e => ?_⟩
  · by_cases z : a = p
    · subst z; rw [upd_same] at e ⊢; exact e
    · rw [upd_ne z] at e ⊢; exact w.sub a u e
  · obtain ⟨h1, h2⟩ := w.mem a m e
    have z : a ≠ p := by rintro rfl; rw [w.freeM h] at e; cases e
    exact ⟨by rw [upd_ne z]; exact h1, h2.mono (Ext.new hg) (upd_ne z)⟩
/-- something in H that nobody speaks of -/
theorem Wf.newH {p : Addr} {o : HO} (w : Wf K M H G) (h : H p = none) : Wf K M (upd H p o) G := by
  refine ⟨fun a u e => ?_, fun a m e => ?_⟩
  · by_cases z : a = p
    · subst z; rw [w.free h] at e; cases e
    · rw [upd_ne z]; exact w.sub a u e
  · obtain ⟨h1, h2⟩ := w.mem a m e
    have z : a ≠ p := by rintro rfl; rw [w.freeM h] at e; cases e
    exact ⟨h1, h2.mono (Ext.refl G) (upd_ne z)⟩
/-- a thing in Mem is new, or changed -/
theorem Wf.put {p : Addr} {o : HO} {m : MO} (w : Wf K M H G) (h : G p = none) (q : MOk K G (upd H p o) p m) : Wf K (mset M p m) (upd H p o) G := by
  refine ⟨fun a u e => ?_, fun a n e => ?_⟩
  · by_cases z : a = p
    · subst z; rw [h] at e; cases e
    · rw [upd_ne z]; exact w.sub a u e
  · by_cases z : a = p
    · subst z
      rw [mset_same] at e
      cases e
      exact ⟨h, q⟩
    · rw [mset_ne z] at e
      obtain ⟨h1, h2⟩ := w.mem a n e
      exact ⟨h1, h2.mono (Ext.refl G) (upd_ne z)⟩
end

/-! ### what a reading by such values says -/
abbrev PK := PV → Mem → Prop
/-- an exception: its class, what its field holds -/
abbrev EK := Value → Option PV → Mem → Prop
abbrev QT := Sl → Mem → PK → EK → Prop
abbrev QB := Sl → Mem → (Bool → Mem → Prop) → EK → Prop
abbrev QA := Sl → Mem → (List PV → Mem → Prop) → EK → Prop
structure QEnds where
  nx : Sl → Mem → Prop
  rt : PK
  bk : Sl → Mem → Prop := fun _ _ => False
  ct : Sl → Mem → Prop := fun _ _ => False
  ex : Value → Option PV → Sl → Mem → Prop := fun _ _ _ _ => False
abbrev QS := QEnds → Sl → Mem → Prop

/-- the field of an exception -/
def ExR (K : PySem.W.Frag) (G : Hp) (d : Option Addr) (pl : Option PV) : Prop :=
  match pl with
  | none => d = none
  | some x => ∃ dd v, d = some dd ∧ G dd = some (.xd [(("signal" : Str), v)]) ∧ Rep K G x v
def LiftV (K : PySem.W.Frag) (G : Hp) (Q0 : PK) (Q : VK) : Prop := ∀ x M' v H' G', Ext G G' → Wf K M' H' G' → Rep K G' x v → Q0 x M' → Q v H'
def LiftE (K : PySem.W.Frag) (G : Hp) (E0 : EK) (E : XK) : Prop := ∀ c pl M' d H' G', Ext G G' → Wf K M' H' G' → ExR K G' d pl → E0 c pl M' → E c d H'
def LiftB (K : PySem.W.Frag) (G : Hp) (Q0 : Bool → Mem → Prop) (Q : Bool → Hp → Prop) : Prop := ∀ x M' H' G', Ext G G' → Wf K M' H' G' → Q0 x M' → Q x H'
def LiftA (K : PySem.W.Frag) (G : Hp) (Q0 : List PV → Mem → Prop) (Q : List V → Hp → Prop) : Prop := ∀ xs M' vs H' G', Ext G G' → Wf K M' H' G' → Reps K G' xs vs → Q0 xs M' → Q vs H'
def LiftN (K : PySem.W.Frag) (G : Hp) (Q0 : Sl → Mem → Prop) (Q : L2.St → Hp → Prop) : Prop := ∀ env' M' σ' H' G', Ext G G' → Sim K env' M' G' σ' H' → Q0 env' M' → Q σ' H'
def LiftX (K : PySem.W.Frag) (G : Hp) (E0 : Value → Option PV → Sl → Mem → Prop) (W : WX) : Prop := ∀ c pl env' M' d σ' H' G', Ext G G' → Sim K env' M' G' σ' H' → ExR K G' d pl → E0 c pl env' M' → W c d σ' H'
section
variable {K : PySem.W.Frag} {G G' : Hp}
theorem LiftV.mono {Q0 : PK} {Q : VK} (h : LiftV K G Q0 Q) (e : Ext G G') : LiftV K G' Q0 Q := fun x M' v H' G1 e1 => h x M' v H' G1 (e.trans e1)
theorem LiftE.mono {Q0 : EK} {Q : XK} (h : LiftE K G Q0 Q) (e : Ext G G') : LiftE K G' Q0 Q := fun c x M' v H' G1 e1 => h c x M' v H' G1 (e.trans e1)
theorem LiftB.mono {Q0 : Bool → Mem → Prop} {Q : Bool → Hp → Prop} (h : LiftB K G Q0 Q) (e : Ext G G') : LiftB K G' Q0 Q := fun x M' H' G1 e1 => h x M' H' G1 (e.trans e1)
theorem LiftA.mono {Q0 : List PV → Mem → Prop} {Q : List V → Hp → Prop} (h : LiftA K G Q0 Q) (e : Ext G G') : LiftA K G' Q0 Q := fun x M' v H' G1 e1 => h x M' v H' G1 (e.trans e1)
theorem LiftN.mono {Q0 : Sl → Mem → Prop} {Q : L2.St → Hp → Prop} (h : LiftN K G Q0 Q) (e : Ext G G') : LiftN K G' Q0 Q := fun env' M' σ' H' G1 e1 => h env' M' σ' H' G1 (e.trans e1)
theorem LiftX.mono {Q0 : Value → Option PV → Sl → Mem → Prop} {Q : WX} (h : LiftX K G Q0 Q) (e : Ext G G') : LiftX K G' Q0 Q := fun c pl env' M' d σ' H' G1 e1 => h c pl env' M' d σ' H' G1 (e.trans e1)
end

def tie (K : PySem.W.Frag) (W : WX) (t : QT) : TE := fun σ H Q => ∃ env M G Q0 E0, Sim K env M G σ H ∧ t env M Q0 E0 ∧ LiftV K G Q0 Q ∧ LiftE K G E0 (WE W σ)
def tieB (K : PySem.W.Frag) (W : WX) (t : QB) : TT := fun σ H Q => ∃ env M G Q0 E0, Sim K env M G σ H ∧ t env M Q0 E0 ∧ LiftB K G Q0 Q ∧ LiftE K G E0 (WE W σ)
def tieA (K : PySem.W.Frag) (W : WX) (t : QA) : TA := fun σ H Q => ∃ env M G Q0 E0, Sim K env M G σ H ∧ t env M Q0 E0 ∧ LiftA K G Q0 Q ∧ LiftE K G E0 (WE W σ)
structure LiftD (K : PySem.W.Frag) (W : WX) (G : Hp) (D0 : QEnds) (D : Ends) : Prop where
  nx : LiftN K G D0.nx D.nx
  rt : LiftV K G D0.rt D.rt
  bk : LiftN K G D0.bk D.bk
  ct : LiftN K G D0.ct D.ct
  ex : LiftX K G D0.ex W
theorem LiftD.mono {K : PySem.W.Frag} {W : WX} {G G' : Hp} {D0 : QEnds} {D : Ends} (h : LiftD K W G D0 D) (e : Ext G G') : LiftD K W G' D0 D := ⟨h.nx.mono e, h.rt.mono e, h.bk.mono e, h.ct.mono e, h.ex.mono e⟩
def tieS (K : PySem.W.Frag) (W : WX) (t : QS) : TS := fun D σ H => ∃ env M G D0, Sim K env M G σ H ∧ t D0 env M ∧ LiftD K W G D0 D

abbrev QE (X : Cx) (W : WX) (e : Expr) (t : QT) : Prop := PE X e (tie X.K W t)
abbrev QPT (X : Cx) (W : WX) (e : Expr) (t : QB) : Prop := PT X e (tieB X.K W t)
abbrev QPA (X : Cx) (W : WX) (es : List Expr) (t : QA) : Prop := PA X es (tieA X.K W t)
abbrev QPS (X : Cx) (W : WX) (st : Stmt) (t : QS) : Prop := PS X st (tieS X.K W t)
abbrev QPSs (X : Cx) (W : WX) (st : List Stmt) (t : QS) : Prop := PSs X st (tieS X.K W t)

section
variable {X : Cx}
theorem _root_.L2.PE.imp {e : Expr} {t t' : TE} (h : PE X e t) (f : ∀ σ H Q, t' σ H Q → t σ H Q) : PE X e t' := ⟨fun pins s σ H Q I q => h.run pins s σ H Q I (f σ H Q q)⟩
theorem _root_.L2.PT.imp {e : Expr} {t t' : TT} (h : PT X e t) (f : ∀ σ H Q, t' σ H Q → t σ H Q) : PT X e t' := ⟨fun pins s σ H Q I q => h.run pins s σ H Q I (f σ H Q q)⟩
theorem _root_.L2.PW.imp {e : Expr} {t t' : TT} (h : PW X e t) (f : ∀ σ H Q, t' σ H Q → t σ H Q) : PW X e t' := ⟨fun w pins s σ H Q I q => h.run w pins s σ H Q I (f σ H Q q)⟩
theorem _root_.L2.PA.imp {e : List Expr} {t t' : TA} (h : PA X e t) (f : ∀ σ H Q, t' σ H Q → t σ H Q) : PA X e t' := ⟨fun pos pins s σ H Q I q => h.run pos pins s σ H Q I (f σ H Q q)⟩
theorem _root_.L2.PS.imp {e : Stmt} {t t' : TS} (h : PS X e t) (f : ∀ D σ H, t' D σ H → t D σ H) : PS X e t' := ⟨fun pins s σ H D I q => h.run pins s σ H D I (f D σ H q)⟩
theorem _root_.L2.PSs.imp {e : List Stmt} {t t' : TS} (h : PSs X e t) (f : ∀ D σ H, t' D σ H → t D σ H) : PSs X e t' := ⟨fun pins s σ H D I q => h.run pins s σ H D I (f D σ H q)⟩
end

/-! ### names, constants -/
section
variable {X : Cx} {W : WX}
def qVar (i : Nat) : QT := fun env M Q _ => ∃ x, env[i]? = some (some x) ∧ Q x M
def qC (x : PV) : QT := fun _ M Q _ => Q x M
theorem qe_var {i : Nat} {e : Expr} (h : PE X e (tVar i)) : QE X W e (qVar i) := h.imp fun σ H Q ⟨env, M, G, Q0, E0, S, ⟨x, e1, q⟩, L, _⟩ => by
  obtain ⟨v, h1, h2⟩ := S.env.get i x e1
  exact ⟨v, h1, L x M v H G (Ext.refl G) S.wf h2 q⟩
theorem qe_c {e : Expr} {v : V} {x : PV} (h : PE X e (tC v)) (r : ∀ K G, Rep K G x v) : QE X W e (qC x) := h.imp fun σ H Q ⟨env, M, G, Q0, E0, S, q, L, _⟩ =>
  L x M v H G (Ext.refl G) S.wf (r _ _) q
theorem qe_int {i j pos} : QE X W (.Constant (.int i) j pos) (qC (.int i)) := qe_c pe_int fun _ _ => rfl
theorem qe_bl {b j pos} : QE X W (.Constant (.bool b) j pos) (qC (.bl b)) := qe_c pe_bl fun _ _ => rfl
theorem qe_non {j pos} : QE X W (.Constant .none j pos) (qC .non) := qe_c pe_non fun _ _ => rfl
theorem qe_str {x j pos} : QE X W (.Constant (.str x) j pos) (qC (.str x)) := qe_c pe_str fun _ _ => rfl
theorem qv (i : Nat) {x : Str} {pos : Pos} (hN : X.N[i]? = some x := by rfl) (hv : Vis X.env.scope x := by first | exact Or.inl rfl | exact Or.inr (Or.inl rfl) | exact Or.inr (Or.inr rfl)) (hd : (x == ("__debug__" : Str)) = false := by decide)
    (hcd : (x == ("__classdict__" : Str)) = false := by decide) : QE X W (.Name x pos) (qVar i) := qe_var (pe_var hN hv hd hcd)

/-! ### two in a row -/
/-- a value-level operation of two -/
abbrev F2 := PV → PV → Mem → PK → Prop
def OpQ (X : Cx) (g : Value → Value → Sem Value) (f : F2) : Prop := OpR X g fun a b H Q => ∃ x y M G Q0, Rep X.K G x a ∧ Rep X.K G y b ∧ Wf X.K M H G ∧ f x y M Q0 ∧ LiftV X.K G Q0 Q
def q2 (f : F2) (ta tb : QT) : QT := fun env M Q E => ta env M (fun x M1 => tb env M1 (fun y M2 => f x y M2 Q) E) E
theorem tie2 {ta tb : QT} {f : F2} {r : R2} {σ : L2.St} {H : Hp} {Q : VK} (hr : ∀ a b H Q, (∃ x y M G Q0, Rep X.K G x a ∧ Rep X.K G y b ∧ Wf X.K M H G ∧ f x y M Q0 ∧ LiftV X.K G Q0 Q) → r a b H Q)
    (h : tie X.K W (q2 f ta tb) σ H Q) : tOp r (tie X.K W ta) (tie X.K W tb) σ H Q := by
  obtain ⟨env, M, G, Q0, E0, S, q, L, LE⟩ := h
  refine ⟨env, M, G, _, E0, S, q, fun x M1 v H1 G1 e1 w1 r1 q1 => ?_, LE⟩
  refine ⟨env, M1, G1, _, E0, S.to e1 w1, q1, fun y M2 u H2 G2 e2 w2 r2 q2 => ?_, LE.mono e1⟩
  exact hr _ _ _ _ ⟨x, y, M2, G2, Q0, Rep.mono e2 x v r1, r2, w2, q2, L.mono (e1.trans e2)⟩
theorem qe_bin {op : Operator} {a b : Expr} {ta tb : QT} {f : F2} {pos : Pos} (ho : OpQ X (binaryOp op) f) (ha : QE X W a ta) (hb : QE X W b tb) : QE X W (.BinOp a op b pos) (q2 f ta tb) :=
  (pe_op ho ha hb).imp fun σ H Q h => tie2 (fun _ _ _ _ z => z) h
theorem qe_cmp {op : CmpOp} {a b : Expr} {ta tb : QT} {f : F2} {pos : Pos} (ho : OpQ X (compareOp op) f) (ha : QE X W a ta) (hb : QE X W b tb) (hm : behindInMarks op b = false := by first | exact nomark _ | rfl) : QE X W (.Compare a [op] [b] pos) (q2 f ta tb) :=
  (pe_cmpR ho ha hb hm).imp fun σ H Q h => tie2 (fun _ _ _ _ z => z) h
end
end TQ

namespace TQ
open PySem PySem.Spec PyProof.Rows L2

/-- the list at an address -/
def ml (o : Option MO) : Option (List PV) := match o with
  | some (.lst xs) => some xs
  | _ => none
theorem ml_some {o : Option MO} {xs : List PV} (h : ml o = some xs) : o = some (.lst xs) := by
  cases o with
  | none => cases h
  | some m => cases m <;> first | (cases h; rfl) | cases h
/-- the items of a list -/
def sq (M : Mem) : PV → Option (List PV)
  | .lst xs => some xs
  | .ref a => ml (M a)
  | _ => none
/-- the items of what len, indexes and loops take -/
def sqA (M : Mem) : PV → Option (List PV)
  | .scr ns => some (ns.map PV.int)
  | x => sq M x
section
variable {K : PySem.W.Frag} {G H : Hp} {M : Mem} {x : PV} {v : V} {xs : List PV}
theorem sq_H (h : sq M x = some xs) (r : Rep K G x v) (w : Wf K M H G) : ∃ p vs, v = .ref p ∧ H p = some (.lst vs) ∧ Reps K G xs vs := by
  cases x with
  | lst ys =>
    cases h
    obtain ⟨a, vs, h1, h2, h3⟩ := r
    exact ⟨a, vs, h1, w.sub _ _ h2, h3⟩
  | ref a =>
    obtain ⟨_, vs, h1, h2⟩ := w.mem a _ (ml_some (o := M a) h)
    exact ⟨a, vs, r, h1, h2⟩
  | _ => cases h
theorem sqA_H (h : sqA M x = some xs) (r : Rep K G x v) (w : Wf K M H G) : ∃ p vs, v = .ref p ∧ SqL K H p vs ∧ Reps K G xs vs := by
  cases x with
  | scr ns =>
    cases h
    obtain ⟨a, h1, h2⟩ := r
    exact ⟨a, _, h1, ext_l w.sub h2, Reps.ints ns⟩
  | _ =>
    obtain ⟨p, vs, h1, h2, h3⟩ := sq_H (h := by exact h) r w
    exact ⟨p, vs, h1, SqL.of h2, h3⟩
end

/-! ### data, for == and in -/
mutual
def dat0 : PV → Option PyData
  | .non => some .none
  | .bl b => some (.bool b)
  | .int i => some (.int i)
  | .str x => some (.str x)
  | .tup xs => (dat0s xs).map .tuple
  | .lst xs => (dat0s xs).map .list
  | _ => none
def dat0s : List PV → Option (List PyData)
  | [] => some []
  | x :: xs => (dat0 x).bind fun d => (dat0s xs).map fun ds => d :: ds
end
def dat (M : Mem) : PV → Option PyData
  | .ref a => (ml (M a)).bind fun xs => (dat0s xs).map .list
  | .scr ns => some (.list (ns.map .int))
  | x => dat0 x
section
variable {K : PySem.W.Frag} {G H : Hp} {M : Mem}
mutual
theorem dat0_dp (e : Ext G H) : ∀ (x : PV) (v : V) (d : PyData), dat0 x = some d → Rep K G x v → Dp K H v d
  | .non, _, _, h, r => by cases h; cases r; exact .non
  | .bl b, _, _, h, r => by cases h; cases r; exact .bl b
  | .int b, _, _, h, r => by cases h; cases r; exact .int b
  | .str b, _, _, h, r => by cases h; cases r; exact .str b
  | .tup xs, _, _, h, r => by
    obtain ⟨a, vs, h1, h2, h3⟩ := r
    unfold dat0 at h
    cases hd : dat0s xs with
    | none => rw [hd] at h; cases h
    | some ds =>
      rw [hd] at h
      cases h
      subst h1
      exact .tup (ext_t e h2) (dat0s_dp e xs vs ds hd h3)
  | .lst xs, _, _, h, r => by
    obtain ⟨a, vs, h1, h2, h3⟩ := r
    unfold dat0 at h
    cases hd : dat0s xs with
    | none => rw [hd] at h; cases h
    | some ds =>
      rw [hd] at h
      cases h
      subst h1
      exact .lst (SqL.of (e _ _ h2)) (dat0s_dp e xs vs ds hd h3)
  | .scr _, _, _, h, _ => by cases h
  | .obj _ _ _, _, _, h, _ => by cases h
  | .ref _, _, _, h, _ => by cases h
  | .ty _, _, _, h, _ => by cases h
theorem dat0s_dp (e : Ext G H) : ∀ (xs : List PV) (vs : List V) (ds : List PyData), dat0s xs = some ds → Reps K G xs vs → DpAll K H vs ds
  | [], _, _, h, r => by cases h; cases r; exact .nil
  | x :: xs, _, _, h, r => by
    obtain ⟨v, ws, rfl, h2, h3⟩ := r
    unfold dat0s at h
    cases hd : dat0 x with
    | none => rw [hd] at h; cases h
    | some d =>
      rw [hd] at h
      cases hs : dat0s xs with
      | none => rw [hs] at h; cases h
      | some ds =>
        rw [hs] at h
        cases h
        exact .cons (dat0_dp e x v d hd h2) (dat0s_dp e xs ws ds hs h3)
end
theorem ints_dp : ∀ (ns : List Int), DpAll K H (ns.map V.int) (ns.map PyData.int)
  | [] => .nil
  | n :: ns => .cons (.int n) (ints_dp ns)
theorem dat_dp (w : Wf K M H G) {x : PV} {v : V} {d : PyData} (h : dat M x = some d) (r : Rep K G x v) : Dp K H v d := by
  cases x with
  | ref a =>
    replace h : ((ml (M a)).bind fun xs => (dat0s xs).map .list) = some d := h
    cases hm : ml (M a) with
    | none => rw [hm] at h; cases h
    | some ys =>
      rw [hm] at h
      obtain ⟨_, vs, h1, h2⟩ := w.mem a _ (ml_some hm)
      replace h : (dat0s ys).map .list = some d := h
      cases hd : dat0s ys with
      | none => rw [hd] at h; cases h
      | some ds =>
        rw [hd] at h
        cases h
        cases r
        exact .lst (SqL.of h1) (dat0s_dp w.sub ys vs ds hd h2)
  | scr ns =>
    cases h
    obtain ⟨a, h1, h2⟩ := r
    subst h1
    exact .lst (ext_l w.sub h2) (ints_dp ns)
  | _ => exact dat0_dp w.sub _ v d h r
mutual
theorem dat0_plain : ∀ (x : PV) (d : PyData), dat0 x = some d → d.plain = true
  | .non, _, h => by cases h; rfl
  | .bl b, _, h => by cases h; rfl
  | .int b, _, h => by cases h; rfl
  | .str b, _, h => by cases h; rfl
  | .tup xs, _, h => by
    unfold dat0 at h
    cases hd : dat0s xs with
    | none => rw [hd] at h; cases h
    | some ds => rw [hd] at h; cases h; exact dat0s_plain xs ds hd
  | .lst xs, _, h => by
    unfold dat0 at h
    cases hd : dat0s xs with
    | none => rw [hd] at h; cases h
    | some ds => rw [hd] at h; cases h; exact dat0s_plain xs ds hd
  | .scr _, _, h => by cases h
  | .obj _ _ _, _, h => by cases h
  | .ref _, _, h => by cases h
  | .ty _, _, h => by cases h
theorem dat0s_plain : ∀ (xs : List PV) (ds : List PyData), dat0s xs = some ds → PyData.plainAll ds = true
  | [], _, h => by cases h; rfl
  | x :: xs, _, h => by
    unfold dat0s at h
    cases hd : dat0 x with
    | none => rw [hd] at h; cases h
    | some d =>
      rw [hd] at h
      cases hs : dat0s xs with
      | none => rw [hs] at h; cases h
      | some ds =>
        rw [hs] at h
        cases h
        show (d.plain && PyData.plainAll ds) = true
        rw [dat0_plain x d hd, dat0s_plain xs ds hs]; rfl
end
theorem ints_plain : ∀ ns : List Int, PyData.plainAll (ns.map PyData.int) = true
  | [] => rfl
  | n :: ns => by show (true && _) = true; rw [ints_plain ns]; rfl
theorem dat_plain {x : PV} {d : PyData} (h : dat M x = some d) : d.plain = true := by
  cases x with
  | ref a =>
    replace h : ((ml (M a)).bind fun xs => (dat0s xs).map .list) = some d := h
    cases hm : ml (M a) with
    | none => rw [hm] at h; cases h
    | some ys =>
      rw [hm] at h
      replace h : (dat0s ys).map .list = some d := h
      cases hd : dat0s ys with
      | none => rw [hd] at h; cases h
      | some ds => rw [hd] at h; cases h; exact dat0s_plain ys ds hd
  | scr ns => cases h; exact ints_plain ns
  | _ => exact dat0_plain _ d h
end

/-! ### values of two, by their kinds -/
def bAdd : F2 := fun x y M Q => match x, y with
  | .int i, .int j => Q (.int (i + j)) M
  | .str a, .str b => a.length + b.length ≤ sizeLine ∧ Q (.str (a ++ b)) M
  | x, y => match sq M x, sq M y with
    | some xs, some ys => xs.length + ys.length ≤ sizeLine ∧ Q (.lst (xs ++ ys)) M
    | _, _ => False
def bSub : F2 := fun x y M Q => match x, y with
  | .int i, .int j => Q (.int (i - j)) M
  | _, _ => False
/-- a text so many times over -/
def repS (x : Str) (n : Int) : Str := ⟨(List.replicate n.toNat x.cps).foldl (· ++ ·) #[]⟩
def bMul : F2 := fun x y M Q => match x, y with
  | .int i, .int j => IntMulOk i j ∧ Q (.int (i * j)) M
  | .str a, .int n => (0 ≤ n ∧ n ≤ 100000 ∧ a.length ≤ 100) ∧ Q (.str (repS a n)) M
  | x, .int n => match sq M x with
    | some xs => (0 ≤ n ∧ n ≤ 1000 ∧ xs.length ≤ 1000) ∧ Q (.lst (List.replicate n.toNat xs).flatten) M
    | none => False
  | _, _ => False
def bDiv : F2 := fun x y M Q => match x, y with
  | .int i, .int j => CDivW i j ∧ Q (.int (i / j)) M
  | _, _ => False
def bMod : F2 := fun x y M Q => match x, y with
  | .int i, .int j => 0 < j ∧ Q (.int (i % j)) M
  | _, _ => False
def bPow : F2 := fun x y M Q => match x, y with
  | .int i, .int j => CPow i j ∧ Q (.int (i ^ j.toNat)) M
  | _, _ => False
def bEqP (neg : Bool) : F2 := fun x y M Q => match x, y with
  | .int i, .int j => Q (.bl (if neg then !decide (i = j) else decide (i = j))) M
  | .str i, .str j => Q (.bl (if neg then !decide (i = j) else decide (i = j))) M
  | .bl i, .bl j => Q (.bl (if neg then !decide (i = j) else decide (i = j))) M
  | x, y => match dat M x, dat M y with
    | some d, some e => min d.depth e.depth ≤ 64 ∧ Q (.bl (if neg then !PyData.eqv d e else PyData.eqv d e)) M
    | _, _ => False
abbrev bEq : F2 := bEqP false
abbrev bNe : F2 := bEqP true
def bLt : F2 := fun x y M Q => match x, y with
  | .int i, .int j => Q (.bl (decide (i < j))) M
  | _, _ => False
def bLe : F2 := fun x y M Q => match x, y with
  | .int i, .int j => Q (.bl (decide (i ≤ j))) M
  | _, _ => False
def bGt : F2 := fun x y M Q => match x, y with
  | .int i, .int j => Q (.bl (decide (j < i))) M
  | _, _ => False
def bGe : F2 := fun x y M Q => match x, y with
  | .int i, .int j => Q (.bl (decide (j ≤ i))) M
  | _, _ => False
/-- x is None -/
def bIsN (neg : Bool) : F2 := fun x y M Q => match y with
  | .non => (match x with
    | .non => Q (.bl (!neg)) M
    | _ => Q (.bl neg) M)
  | _ => False

section
variable {X : Cx}
theorem OpQ.of {g : Value → Value → Sem Value} {r : R2} {f : F2} (h : OpR X g r) (k : ∀ a b H Q, (∃ x y M G Q0, Rep X.K G x a ∧ Rep X.K G y b ∧ Wf X.K M H G ∧ f x y M Q0 ∧ LiftV X.K G Q0 Q) → r a b H Q) : OpQ X g f :=
  fun pins s σ H x y v u Q I rx ry q => h pins s σ H x y v u Q I rx ry (k _ _ _ _ q)
theorem opq_int {g : Value → Value → Sem Value} {C : Int → Int → Prop} {e : Int → Int → V} {e' : Int → Int → PV} {f : F2} (h : OpR X g (rI C e)) (he : ∀ i j K G, Rep K G (e' i j) (e i j))
    (k : ∀ x y M Q, f x y M Q → ∃ i j, x = .int i ∧ y = .int j ∧ C i j ∧ Q (e' i j) M) : OpQ X g f := OpQ.of h fun a b H Q ⟨x, y, M, G, Q0, rx, ry, w, q, L⟩ => by
  obtain ⟨i, j, rfl, rfl, c, q'⟩ := k x y M Q0 q
  exact ⟨i, j, rx, ry, c, L (e' i j) M _ H G (Ext.refl G) w (he i j _ _) q'⟩
theorem opq_int0 {g : Value → Value → Sem Value} {e : Int → Int → V} {e' : Int → Int → PV} {f : F2} (h : OpR X g (rI0 e)) (he : ∀ i j K G, Rep K G (e' i j) (e i j))
    (k : ∀ x y M Q, f x y M Q → ∃ i j, x = .int i ∧ y = .int j ∧ Q (e' i j) M) : OpQ X g f := OpQ.of h fun a b H Q ⟨x, y, M, G, Q0, rx, ry, w, q, L⟩ => by
  obtain ⟨i, j, rfl, rfl, q'⟩ := k x y M Q0 q
  exact ⟨i, j, rx, ry, L (e' i j) M _ H G (Ext.refl G) w (he i j _ _) q'⟩
theorem oq_sub : OpQ X (binaryOp .Sub) bSub := opq_int0 op_sub (e' := fun i j => .int (i - j)) (fun _ _ _ _ => rfl) fun x y M Q q => by
  cases x <;> cases y <;> first | exact q.elim | exact ⟨_, _, rfl, rfl, q⟩
theorem oq_mod : OpQ X (binaryOp .Mod) bMod := opq_int op_mod (e' := fun i j => .int (i % j)) (fun _ _ _ _ => rfl) fun x y M Q q => by
  cases x <;> cases y <;> first | exact q.elim | exact ⟨_, _, rfl, rfl, q⟩
theorem oq_div : OpQ X (binaryOp .FloorDiv) bDiv := opq_int op_fdivW (e' := fun i j => .int (i / j)) (fun _ _ _ _ => rfl) fun x y M Q q => by
  cases x <;> cases y <;> first | exact q.elim | exact ⟨_, _, rfl, rfl, q⟩
theorem oq_pow : OpQ X (binaryOp .Pow) bPow := opq_int op_pow (e' := fun i j => .int (i ^ j.toNat)) (fun _ _ _ _ => rfl) fun x y M Q q => by
  cases x <;> cases y <;> first | exact q.elim | exact ⟨_, _, rfl, rfl, q⟩
theorem oq_lt : OpQ X (compareOp .Lt) bLt := opq_int0 op_lt (e' := fun i j => .bl (decide (i < j))) (fun _ _ _ _ => rfl) fun x y M Q q => by
  cases x <;> cases y <;> first | exact q.elim | exact ⟨_, _, rfl, rfl, q⟩
theorem oq_le : OpQ X (compareOp .LtE) bLe := opq_int0 op_le (e' := fun i j => .bl (decide (i ≤ j))) (fun _ _ _ _ => rfl) fun x y M Q q => by
  cases x <;> cases y <;> first | exact q.elim | exact ⟨_, _, rfl, rfl, q⟩
theorem oq_gt : OpQ X (compareOp .Gt) bGt := opq_int0 op_gt (e' := fun i j => .bl (decide (j < i))) (fun _ _ _ _ => rfl) fun x y M Q q => by
  cases x <;> cases y <;> first | exact q.elim | exact ⟨_, _, rfl, rfl, q⟩
theorem oq_ge : OpQ X (compareOp .GtE) bGe := opq_int0 op_ge (e' := fun i j => .bl (decide (j ≤ i))) (fun _ _ _ _ => rfl) fun x y M Q q => by
  cases x <;> cases y <;> first | exact q.elim | exact ⟨_, _, rfl, rfl, q⟩
theorem op_mulA : OpR X (binaryOp .Mult) (rI IntMulOk fun i j => .int (i * j)) := opI fun _ _ _ _ _ _ _ hc q => mul_int q hc
theorem op_mulS : OpR X (binaryOp .Mult) (fun x y H Q => ∃ a n, x = .str a ∧ y = .int n ∧ (0 ≤ n ∧ n ≤ 100000 ∧ a.length ≤ 100) ∧ Q (.str (repS a n)) H) := by
  intro pins s σ H x y v u Q I rx ry h
  obtain ⟨a, n, rfl, rfl, ⟨h0, h1, h2⟩, q⟩ := h
  obtain ⟨t, rfl⟩ := rx
  obtain ⟨t', rfl⟩ := ry
  have hm : a.length * n.toNat ≤ 100 * 100000 := Nat.mul_le_mul h2 (by omega)
  refine P.mul_str ?_ ?_ ?_ ?_
  · rw [decide_eq_false (by omega), decide_eq_false (by omega)]; rfl
  · intro hn _ hg
    have : (100 : Int) ≤ (2 ^ 63 - 1) / n := by
      rw [Int.le_ediv_iff_mul_le (by omega)]
      omega
    omega
  · intro _ _
    show decide (a.length * n.toNat > sizeLine) = false
    rw [sizeLine_eq]
    exact decide_eq_false (by omega)
  · have fold_one : ∀ (m : Nat), (List.replicate m a.cps).foldl (· ++ ·) #[] = (List.replicate m a.cps).foldl (· ++ ·) #[] := fun _ => rfl
    split
    · have e : n = 0 := by omega
      subst e
      exact ⟨by decide, .str _, H, I.tok _, ⟨_, rfl⟩, q⟩
    · split
      · rename_i hn hz
        simp only [Bool.or_eq_true, beq_iff_eq] at hz
        refine ⟨.str _, H, I, ⟨_, rfl⟩, ?_⟩
        have e : repS a n = a := by
          rcases hz with hz | hz
          · subst hz
            unfold repS
            simp
          · have ha : a.cps = #[] := Array.eq_empty_of_size_eq_zero hz
            unfold repS
            rw [ha]
            have : ∀ m : Nat, (List.replicate m (#[] : Array Nat)).foldl (· ++ ·) #[] = #[] := fun m => by
              induction m with
              | zero => rfl
              | succ m ih => rw [List.replicate_succ, List.foldl_cons]; simpa using ih
            rw [this]
            cases a
            simp at ha
            rw [ha]
        rw [← e]; exact q
      · refine ⟨?_, .str _, H, I.tok _, ⟨_, rfl⟩, q⟩
        have len : ∀ (m : Nat) (acc : Array Nat), ((List.replicate m a.cps).foldl (· ++ ·) acc).size = acc.size + m * a.cps.size := fun m => by
          induction m with
          | zero => intro acc; simp
          | succ m ih => intro acc; rw [List.replicate_succ, List.foldl_cons, ih, Array.size_append, Nat.succ_mul]; omega
        show ((List.replicate n.toNat a.cps).foldl (· ++ ·) #[]).size ≤ sizeLine
        rw [len, sizeLine_eq]
        have hc : a.cps.size = a.length := rfl
        rw [hc, Nat.mul_comm]
        simp
        omega
end
end TQ

namespace TQ
open PySem PySem.Spec PyProof.Rows L2
section
variable {K : PySem.W.Frag} {G H : Hp} {M : Mem} {Q0 : PK} {Q : VK} {p : Addr} {xs : List PV} {vs : List V}
theorem give_lst (L : LiftV K G Q0 Q) (w : Wf K M H G) (hp : H p = none) (r : Reps K G xs vs) (q : Q0 (.lst xs) M) : Q (.ref p) (upd H p (.lst vs)) :=
  L (.lst xs) M _ _ _ (Ext.new (w.free hp)) (w.newG hp) ⟨p, vs, rfl, upd_same, Reps.mono (Ext.new (w.free hp)) _ _ r⟩ q
theorem give_tup (L : LiftV K G Q0 Q) (w : Wf K M H G) (hp : H p = none) (r : Reps K G xs vs) (q : Q0 (.tup xs) M) : Q (.ref p) (upd H p (.tup vs)) :=
  L (.tup xs) M _ _ _ (Ext.new (w.free hp)) (w.newG hp) ⟨p, vs, rfl, SqT.of upd_same, Reps.mono (Ext.new (w.free hp)) _ _ r⟩ q
/-- the same value as it stands -/
theorem give (L : LiftV K G Q0 Q) (w : Wf K M H G) {x : PV} {v : V} (r : Rep K G x v) (q : Q0 x M) : Q v H := L x M v H G (Ext.refl G) w r q
theorem mok_lst (r : Reps K G xs vs) : MOk K G (upd H p (.lst vs)) p (.lst xs) := ⟨vs, upd_same, r⟩
end
section
variable {X : Cx}
theorem oq_add : OpQ X (binaryOp .Add) bAdd := by
  intro pins s σ H a b v u Q I ra rb ⟨x, y, M, G, Q0, rx, ry, w, q, L⟩
  have lists : ∀ {x y : PV}, (match sq M x, sq M y with
      | some xs, some ys => xs.length + ys.length ≤ sizeLine ∧ Q0 (.lst (xs ++ ys)) M
      | _, _ => False) → Rep X.K G x a → Rep X.K G y b → wpAny (model X.prog X.w) X.A (binaryOp .Add v u) (EP X pins σ Q) X.xe s := fun {x y} q rx ry => by
    cases hx : sq M x with
    | none => rw [hx] at q; exact q.elim
    | some xs =>
      cases hy : sq M y with
      | none => rw [hx, hy] at q; exact q.elim
      | some ys =>
        rw [hx, hy] at q
        obtain ⟨p1, vs, e1, h1, r1⟩ := sq_H hx rx w
        obtain ⟨p2, ws, e2, h2, r2⟩ := sq_H hy ry w
        obtain ⟨hz, q⟩ := q
        refine op_cat pins s σ H a b v u Q I ra rb ⟨p1, p2, vs, ws, e1, e2, h1, h2, by rw [← r1.length, ← r2.length]; exact hz, fun p hp => give_lst L w hp (r1.append r2) q⟩
  cases x <;> cases y <;> first
    | exact op_add pins s σ H a b v u Q I ra rb ⟨_, _, rx, ry, give L w (x := .int _) rfl q⟩
    | exact op_add_str pins s σ H a b v u Q I ra rb ⟨_, _, rx, ry, q.1, give L w (x := .str _) rfl q.2⟩
    | exact lists q rx ry
theorem oq_mul : OpQ X (binaryOp .Mult) bMul := by
  intro pins s σ H a b v u Q I ra rb ⟨x, y, M, G, Q0, rx, ry, w, q, L⟩
  have lists : ∀ {x : PV} {n : Int}, (match sq M x with
      | some xs => (0 ≤ n ∧ n ≤ 1000 ∧ xs.length ≤ 1000) ∧ Q0 (.lst (List.replicate n.toNat xs).flatten) M
      | none => False) → Rep X.K G x a → Rep X.K G (.int n) b → wpAny (model X.prog X.w) X.A (binaryOp .Mult v u) (EP X pins σ Q) X.xe s := fun {x n} q rx ry => by
    cases hx : sq M x with
    | none => rw [hx] at q; exact q.elim
    | some xs =>
      rw [hx] at q
      obtain ⟨p1, vs, e1, h1, r1⟩ := sq_H hx rx w
      obtain ⟨⟨g0, g1, g2⟩, q⟩ := q
      have hm : vs.length * n.toNat ≤ 1000 * 1000 := Nat.mul_le_mul (by rw [← r1.length]; exact g2) (by omega)
      have rep : ∀ m : Nat, Reps X.K G (List.replicate m xs).flatten (List.replicate m vs).flatten := fun m => by
        induction m with
        | zero => exact Reps.nil
        | succ m ih => rw [List.replicate_succ, List.replicate_succ, List.flatten_cons, List.flatten_cons]; exact r1.append ih
      refine op_rep pins s σ H a b v u Q I ra rb ⟨p1, n, vs, e1, ry, h1, by omega, by omega, by rw [sizeLine_eq]; omega, fun p hp => give_lst L w hp (rep _) q⟩
  cases x <;> cases y <;> first
    | exact op_mulA pins s σ H a b v u Q I ra rb ⟨_, _, rx, ry, q.1, give L w (x := .int _) rfl q.2⟩
    | exact op_mulS pins s σ H a b v u Q I ra rb ⟨_, _, rx, ry, q.1, give L w (x := .str _) rfl q.2⟩
    | exact lists q rx ry
    | exact q.elim
theorem op_eqN (hu : X.A.units + 64 < cLine) : OpR X (compareOp .Eq) (fun x y H Q => ∃ d e, Dp X.K H x d ∧ Dp X.K H y e ∧ d.plain = true ∧ e.plain = true ∧ min d.depth e.depth ≤ 64 ∧ Q (.bl (PyData.eqv d e)) H) := by
  intro pins s σ H x y v u Q I rx ry h
  obtain ⟨d, e, hd, he, sd, se, hm, q⟩ := h
  obtain ⟨as, r1⟩ := Dp.reads I d x v hd rx
  obtain ⟨bs, r2⟩ := Dp.reads I e y u he ry
  exact SeqAt.eq_plain r1 r2 sd se (by omega) ⟨.bl _, H, I, rfl, q⟩
theorem op_neN (hu : X.A.units + 64 < cLine) : OpR X (compareOp .NotEq) (fun x y H Q => ∃ d e, Dp X.K H x d ∧ Dp X.K H y e ∧ d.plain = true ∧ e.plain = true ∧ min d.depth e.depth ≤ 64 ∧ Q (.bl (!PyData.eqv d e)) H) := by
  intro pins s σ H x y v u Q I rx ry h
  obtain ⟨d, e, hd, he, sd, se, hm, q⟩ := h
  obtain ⟨as, r1⟩ := Dp.reads I d x v hd rx
  obtain ⟨bs, r2⟩ := Dp.reads I e y u he ry
  exact SeqAt.ne_plain r1 r2 sd se (by omega) ⟨.bl _, H, I, rfl, q⟩
theorem dec_iff {α β : Type} [DecidableEq α] [DecidableEq β] {a b : α} {c d : β} (h : a = b ↔ c = d) : decide (a = b) = decide (c = d) := by
  rw [Bool.eq_iff_iff]; simp [h]
theorem oq_eq (hu : X.A.units + 64 < cLine) : OpQ X (compareOp .Eq) bEq := by
  intro pins s σ H a b v u Q I ra rb ⟨x, y, M, G, Q0, rx, ry, w, q, L⟩
  have data : ∀ {x y : PV}, (match dat M x, dat M y with
      | some d, some e => min d.depth e.depth ≤ 64 ∧ Q0 (.bl (if false then !PyData.eqv d e else PyData.eqv d e)) M
      | _, _ => False) → Rep X.K G x a → Rep X.K G y b → wpAny (model X.prog X.w) X.A (compareOp .Eq v u) (EP X pins σ Q) X.xe s := fun {x y} q rx ry => by
    cases hx : dat M x with
    | none => rw [hx] at q; exact q.elim
    | some d =>
      cases hy : dat M y with
      | none => rw [hx, hy] at q; exact q.elim
      | some e =>
        rw [hx, hy] at q
        exact op_eqN hu pins s σ H a b v u Q I ra rb ⟨d, e, dat_dp w hx rx, dat_dp w hy ry, dat_plain hx, dat_plain hy, q.1, give L w (x := .bl _) rfl q.2⟩
  cases x <;> cases y <;> first
    | exact data q rx ry
    | (cases rx; cases ry; exact op_eq pins s σ H _ _ v u Q I ra rb ⟨rfl, give L w (x := .bl _) (show V.bl _ = V.bl _ by simp) q⟩)
theorem oq_ne (hu : X.A.units + 64 < cLine) : OpQ X (compareOp .NotEq) bNe := by
  intro pins s σ H a b v u Q I ra rb ⟨x, y, M, G, Q0, rx, ry, w, q, L⟩
  have data : ∀ {x y : PV}, (match dat M x, dat M y with
      | some d, some e => min d.depth e.depth ≤ 64 ∧ Q0 (.bl (if true then !PyData.eqv d e else PyData.eqv d e)) M
      | _, _ => False) → Rep X.K G x a → Rep X.K G y b → wpAny (model X.prog X.w) X.A (compareOp .NotEq v u) (EP X pins σ Q) X.xe s := fun {x y} q rx ry => by
    cases hx : dat M x with
    | none => rw [hx] at q; exact q.elim
    | some d =>
      cases hy : dat M y with
      | none => rw [hx, hy] at q; exact q.elim
      | some e =>
        rw [hx, hy] at q
        exact op_neN hu pins s σ H a b v u Q I ra rb ⟨d, e, dat_dp w hx rx, dat_dp w hy ry, dat_plain hx, dat_plain hy, q.1, give L w (x := .bl _) rfl q.2⟩
  cases x <;> cases y <;> first
    | exact data q rx ry
    | (cases rx; cases ry; exact op_ne pins s σ H _ _ v u Q I ra rb ⟨rfl, give L w (x := .bl _) (show V.bl _ = V.bl _ by simp) q⟩)
theorem rep_non {K : PySem.W.Frag} {G : Hp} {x : PV} {v : V} (r : Rep K G x v) : decide (v = V.non) = (match x with
    | .non => true
    | _ => false) := by
  cases x with
  | non => cases r; rfl
  | tup xs => obtain ⟨a, vs, rfl, _⟩ := r; rfl
  | lst xs => obtain ⟨a, vs, rfl, _⟩ := r; rfl
  | scr xs => obtain ⟨a, rfl, _⟩ := r; rfl
  | obj C ns xs => obtain ⟨a, dx, vs, rfl, _⟩ := r; rfl
  | _ => cases r; rfl
theorem oq_isN : OpQ X (compareOp .Is) (bIsN false) := by
  intro pins s σ H a b v u Q I ra rb ⟨x, y, M, G, Q0, rx, ry, w, q, L⟩
  cases y <;> first
    | exact q.elim
    | (refine op_isN pins s σ H a b v u Q I ra rb ⟨ry, ?_⟩
       rw [rep_non rx]
       cases x <;> exact give L w (x := .bl _) rfl q)
theorem oq_notN : OpQ X (compareOp .IsNot) (bIsN true) := by
  intro pins s σ H a b v u Q I ra rb ⟨x, y, M, G, Q0, rx, ry, w, q, L⟩
  cases y <;> first
    | exact q.elim
    | (refine op_notN pins s σ H a b v u Q I ra rb ⟨ry, ?_⟩
       rw [rep_non rx]
       cases x <;> exact give L w (x := .bl _) rfl q)
end

/-! ### tests, and, or, not, a if t else b -/
section
variable {X : Cx} {W : WX} {pos : Pos}
/-- a value that is a truth, as a test -/
def qTst (t : QT) : QB := fun env M Q E => t env M (fun x M1 => ∃ b, x = .bl b ∧ Q b M1) E
theorem tie_tst {t : QT} {σ : L2.St} {H : Hp} {Q : Bool → Hp → Prop} (h : tieB X.K W (qTst t) σ H Q) : tie X.K W t σ H fun x H1 => ∃ c, x = .bl c ∧ Q c H1 := by
  obtain ⟨env, M, G, Q0, E0, S, q, L, LE⟩ := h
  refine ⟨env, M, G, _, E0, S, q, fun x M1 v H1 G1 e1 w1 r1 q1 => ?_, LE⟩
  obtain ⟨b, rfl, q1⟩ := q1
  exact ⟨b, r1, L b M1 H1 G1 e1 w1 q1⟩
theorem qt_cmp {op : CmpOp} {a b : Expr} {ta tb : QT} {f : F2} (ho : OpQ X (compareOp op) f) (ha : QE X W a ta) (hb : QE X W b tb) (hm : behindInMarks op b = false := by first | exact nomark _ | rfl) : QPT X W (.Compare a [op] [b] pos) (qTst (q2 f ta tb)) :=
  (pt_cmpR ho ha hb hm).imp fun σ H Q h => tie2 (fun _ _ _ _ z => z) (tie_tst h)
theorem qt_val {e : Expr} {t : QT} (h : QE X W e t) (he : ∀ whole, isTrue e X.env whole = (do let v ← whole; standAt e.pos; holding [v] (truthy v)) := by intro _; rfl) : QPT X W e (qTst t) :=
  (pt_val h he).imp fun σ H Q h => tie_tst h
def qAnd (t u : QB) : QB := fun env M Q E => t env M (fun c M1 => if c = true then u env M1 Q E else Q false M1) E
def qOr (t u : QB) : QB := fun env M Q E => t env M (fun c M1 => if c = true then Q true M1 else u env M1 Q E) E
def qNot (t : QB) : QB := fun env M Q E => t env M (fun c M1 => Q (!c) M1) E
abbrev QPW (X : Cx) (W : WX) (e : Expr) (t : QB) : Prop := PW X e (tieB X.K W t)
theorem qw_one_and {a : Expr} {t : QB} (h : QPT X W a t) : QPW X W (.BoolOp .And [a] pos) t := pw_and1 h
theorem qw_one_or {a : Expr} {t : QB} (h : QPT X W a t) : QPW X W (.BoolOp .Or [a] pos) t := pw_or1 h
theorem qw_and {a b : Expr} {rest : List Expr} {t u : QB} (h : QPT X W a t) (k : QPW X W (.BoolOp .And (b :: rest) pos) u) : QPW X W (.BoolOp .And (a :: b :: rest) pos) (qAnd t u) :=
  (pw_and h k).imp fun σ H Q hh => by
    obtain ⟨env, M, G, Q0, E0, S, q, L, LE⟩ := hh
    refine ⟨env, M, G, _, E0, S, q, fun c M1 H1 G1 e1 w1 q1 => ?_, LE⟩
    cases c with
    | true => exact ⟨env, M1, G1, Q0, E0, S.to e1 w1, q1, L.mono e1, LE.mono e1⟩
    | false => exact L false M1 H1 G1 e1 w1 q1
theorem qw_or {a b : Expr} {rest : List Expr} {t u : QB} (h : QPT X W a t) (k : QPW X W (.BoolOp .Or (b :: rest) pos) u) : QPW X W (.BoolOp .Or (a :: b :: rest) pos) (qOr t u) :=
  (pw_or h k).imp fun σ H Q hh => by
    obtain ⟨env, M, G, Q0, E0, S, q, L, LE⟩ := hh
    refine ⟨env, M, G, _, E0, S, q, fun c M1 H1 G1 e1 w1 q1 => ?_, LE⟩
    cases c with
    | false => exact ⟨env, M1, G1, Q0, E0, S.to e1 w1, q1, L.mono e1, LE.mono e1⟩
    | true => exact L true M1 H1 G1 e1 w1 q1
theorem qt_w {e : Expr} {t : QB} (h : QPW X W e t) : QPT X W e t := PW.pt h
theorem qt_not {a : Expr} {t : QB} (h : QPT X W a t) : QPT X W (.UnaryOp .Not a pos) (qNot t) := (pt_not h).imp fun σ H Q hh => by
  obtain ⟨env, M, G, Q0, E0, S, q, L, LE⟩ := hh
  exact ⟨env, M, G, _, E0, S, q, fun c M1 H1 G1 e1 w1 q1 => L (!c) M1 H1 G1 e1 w1 q1, LE⟩
/-- as values -/
def qAndV (t u : QT) : QT := fun env M Q E => t env M (fun x M1 => ∃ c, x = .bl c ∧ if c = true then u env M1 Q E else Q (.bl false) M1) E
def qOrV (t u : QT) : QT := fun env M Q E => t env M (fun x M1 => ∃ c, x = .bl c ∧ if c = true then Q (.bl true) M1 else u env M1 Q E) E
def qNotV (t : QT) : QT := fun env M Q E => t env M (fun x M1 => ∃ c, x = .bl c ∧ Q (.bl (!c)) M1) E
def qIf (c : QB) (t u : QT) : QT := fun env M Q E => c env M (fun b M1 => if b = true then t env M1 Q E else u env M1 Q E) E
theorem qe_one {op} {a : Expr} {t : QT} (h : QE X W a t) : QE X W (.BoolOp op [a] pos) t := pe_one h
theorem qe_and {a b : Expr} {rest : List Expr} {t u : QT} (h : QE X W a t) (k : QE X W (.BoolOp .And (b :: rest) pos) u) : QE X W (.BoolOp .And (a :: b :: rest) pos) (qAndV t u) :=
  (pe_and h k).imp fun σ H Q hh => by
    obtain ⟨env, M, G, Q0, E0, S, q, L, LE⟩ := hh
    refine ⟨env, M, G, _, E0, S, q, fun x M1 v H1 G1 e1 w1 r1 q1 => ?_, LE⟩
    obtain ⟨c, rfl, q1⟩ := q1
    refine ⟨c, r1, ?_⟩
    cases c with
    | true => exact ⟨env, M1, G1, Q0, E0, S.to e1 w1, q1, L.mono e1, LE.mono e1⟩
    | false => exact L (.bl false) M1 _ H1 G1 e1 w1 rfl q1
theorem qe_or {a b : Expr} {rest : List Expr} {t u : QT} (h : QE X W a t) (k : QE X W (.BoolOp .Or (b :: rest) pos) u) : QE X W (.BoolOp .Or (a :: b :: rest) pos) (qOrV t u) :=
  (pe_or h k).imp fun σ H Q hh => by
    obtain ⟨env, M, G, Q0, E0, S, q, L, LE⟩ := hh
    refine ⟨env, M, G, _, E0, S, q, fun x M1 v H1 G1 e1 w1 r1 q1 => ?_, LE⟩
    obtain ⟨c, rfl, q1⟩ := q1
    refine ⟨c, r1, ?_⟩
    cases c with
    | false => exact ⟨env, M1, G1, Q0, E0, S.to e1 w1, q1, L.mono e1, LE.mono e1⟩
    | true => exact L (.bl true) M1 _ H1 G1 e1 w1 rfl q1
theorem qe_not {a : Expr} {t : QT} (h : QE X W a t) : QE X W (.UnaryOp .Not a pos) (qNotV t) := (pe_not h).imp fun σ H Q hh => by
  obtain ⟨env, M, G, Q0, E0, S, q, L, LE⟩ := hh
  refine ⟨env, M, G, _, E0, S, q, fun x M1 v H1 G1 e1 w1 r1 q1 => ?_, LE⟩
  obtain ⟨c, rfl, q1⟩ := q1
  exact ⟨c, r1, L (.bl (!c)) M1 _ H1 G1 e1 w1 rfl q1⟩
theorem qe_if {c a b : Expr} {tc : QB} {t u : QT} (hc : QPT X W c tc) (h : QE X W a t) (k : QE X W b u) : QE X W (.IfExp c a b pos) (qIf tc t u) := (pe_ifExp hc h k).imp fun σ H Q hh => by
  obtain ⟨env, M, G, Q0, E0, S, q, L, LE⟩ := hh
  refine ⟨env, M, G, _, E0, S, q, fun c M1 H1 G1 e1 w1 q1 => ?_, LE⟩
  cases c with
  | true => exact ⟨env, M1, G1, Q0, E0, S.to e1 w1, q1, L.mono e1, LE.mono e1⟩
  | false => exact ⟨env, M1, G1, Q0, E0, S.to e1 w1, q1, L.mono e1, LE.mono e1⟩
end
end TQ

namespace TQ
open PySem PySem.Spec PyProof.Rows L2
/-! ### arguments, displays -/
section
variable {X : Cx} {W : WX} {pos : Pos}
def qNil : QA := fun _ M Q _ => Q [] M
def qCons (t : QT) (r : QA) : QA := fun env M Q E => t env M (fun x M1 => r env M1 (fun xs M2 => Q (x :: xs) M2) E) E
theorem qa_nil : QPA X W [] qNil := pa_nil.imp fun σ H Q ⟨env, M, G, Q0, E0, S, q, L, LE⟩ => L [] M [] H G (Ext.refl G) S.wf Reps.nil q
theorem qa_cons {e : Expr} {es : List Expr} {t : QT} {r : QA} (h : QE X W e t) (k : QPA X W es r) (hs : starEach (e :: es) X.env = (false, eval e X.env) :: starEach es X.env := by rfl) : QPA X W (e :: es) (qCons t r) :=
  (pa_cons h k hs).imp fun σ H Q ⟨env, M, G, Q0, E0, S, q, L, LE⟩ => by
    refine ⟨env, M, G, _, E0, S, q, fun x M1 v H1 G1 e1 w1 r1 q1 => ?_, LE⟩
    refine ⟨env, M1, G1, _, E0, S.to e1 w1, q1, fun xs M2 vs H2 G2 e2 w2 r2 q2 => ?_, LE.mono e1⟩
    exact L (x :: xs) M2 (v :: vs) H2 G2 (e1.trans e2) w2 (Reps.cons (Rep.mono e2 x v r1) r2) q2
def qTup (t : QA) : QT := fun env M Q E => t env M (fun xs M1 => xs.length ≤ sizeLine ∧ Q (.tup xs) M1) E
def qLst (t : QA) : QT := fun env M Q E => t env M (fun xs M1 => xs.length ≤ sizeLine ∧ Q (.lst xs) M1) E
/-- a list that will be written -/
def qLstM (t : QA) : QT := fun env M Q E => t env M (fun xs M1 => xs.length ≤ sizeLine ∧ ∀ p, M1 p = none → Q (.ref p) (mset M1 p (.lst xs))) E
theorem qe_tup {es : List Expr} {t : QA} {j} (h : QPA X W es t) : QE X W (.Tuple es j pos) (qTup t) := (pe_tup h).imp fun σ H Q ⟨env, M, G, Q0, E0, S, q, L, LE⟩ => by
  refine ⟨env, M, G, _, E0, S, q, fun xs M1 vs H1 G1 e1 w1 r1 q1 => ?_, LE⟩
  exact ⟨by rw [← r1.length]; exact q1.1, fun p hp => give_tup (L.mono e1) w1 hp r1 q1.2⟩
theorem qe_lst {es : List Expr} {t : QA} (h : QPA X W es t) : QE X W (.List es pos) (qLst t) := (pe_lst h).imp fun σ H Q ⟨env, M, G, Q0, E0, S, q, L, LE⟩ => by
  refine ⟨env, M, G, _, E0, S, q, fun xs M1 vs H1 G1 e1 w1 r1 q1 => ?_, LE⟩
  exact ⟨by rw [← r1.length]; exact q1.1, fun p hp => give_lst (L.mono e1) w1 hp r1 q1.2⟩
theorem give_ref {K : PySem.W.Frag} {G H : Hp} {M : Mem} {Q0 : PK} {Q : VK} {p : Addr} {o : HO} {m : MO} (L : LiftV K G Q0 Q) (w : Wf K M H G) (hg : G p = none) (r : MOk K G (upd H p o) p m) (q : Q0 (.ref p) (mset M p m)) : Q (.ref p) (upd H p o) :=
  L (.ref p) _ _ _ G (Ext.refl G) (w.put hg r) rfl q
theorem qe_lstM {es : List Expr} {t : QA} (h : QPA X W es t) : QE X W (.List es pos) (qLstM t) := (pe_lst h).imp fun σ H Q ⟨env, M, G, Q0, E0, S, q, L, LE⟩ => by
  refine ⟨env, M, G, _, E0, S, q, fun xs M1 vs H1 G1 e1 w1 r1 q1 => ?_, LE⟩
  exact ⟨by rw [← r1.length]; exact q1.1, fun p hp => give_ref (L.mono e1) w1 (w1.free hp) (mok_lst r1) (q1.2 p (w1.freeM hp))⟩
end

/-! ### items, slices -/
def bIx : F2 := fun x y M Q => match y with
  | .int i => (match x with
    | .tup xs => ∃ v, atI xs i = some v ∧ Q v M
    | .str z => z.length ≤ sizeLine ∧ ∃ c, atI z.cps.toList i = some c ∧ Q (.str ⟨#[c]⟩) M
    | x => match sqA M x with
      | some xs => ∃ v, atI xs i = some v ∧ Q v M
      | none => False)
  | _ => False
theorem atI_rep {K : PySem.W.Frag} {G : Hp} {xs : List PV} {vs : List V} {i : Int} {x : PV} (r : Reps K G xs vs) (h : atI xs i = some x) : ∃ v, atI vs i = some v ∧ Rep K G x v := by
  unfold atI at h ⊢
  rw [← r.length]
  cases hi : ixN xs.length i with
  | none => rw [hi] at h; cases h
  | some j =>
    rw [hi] at h
    exact r.get (show xs[j]? = some x from h)
def bSl (lo hi : Option Int) (x : PV) (M : Mem) (Q : PK) : Prop := match x with
  | .str z => z.length ≤ sizeLine ∧ Q (.str (cutS z lo hi)) M
  | .tup xs => ¬ (HT.sIx xs.length 0 lo = 0 ∧ HT.sIx xs.length xs.length hi = xs.length) ∧ Q (.tup ((xs.drop (HT.sIx xs.length 0 lo)).take (HT.sIx xs.length xs.length hi - HT.sIx xs.length 0 lo))) M
  | x => match sqA M x with
    | some xs => Q (.lst ((xs.drop (HT.sIx xs.length 0 lo)).take (HT.sIx xs.length xs.length hi - HT.sIx xs.length 0 lo))) M
    | none => False
section
variable {X : Cx} {W : WX} {pos : Pos}
theorem ixq : IxR X (fun a b H Q => ∃ x y M G Q0, Rep X.K G x a ∧ Rep X.K G y b ∧ Wf X.K M H G ∧ bIx x y M Q0 ∧ LiftV X.K G Q0 Q) := by
  intro value slice pins s σ H a b v u Q I ra rb ⟨x, y, M, G, Q0, rx, ry, w, q, L⟩ hs
  have sq1 : ∀ {x : PV} {i : Int}, (match sqA M x with
      | some xs => ∃ v, atI xs i = some v ∧ Q0 v M
      | none => False) → Rep X.K G x a → Rep X.K G (.int i) b → wpAny (model X.prog X.w) X.A (subscriptTail value slice v u) (EP X pins σ Q) X.xe s := fun {x i} q rx ry => by
    cases hx : sqA M x with
    | none => rw [hx] at q; exact q.elim
    | some xs =>
      rw [hx] at q
      obtain ⟨z, hz, q⟩ := q
      obtain ⟨p, vs, e1, h1, r1⟩ := sqA_H hx rx w
      obtain ⟨zv, h2, r2⟩ := atI_rep r1 hz
      exact ix_list value slice pins s σ H a b v u Q I ra rb ⟨p, vs, i, zv, e1, ry, h1, h2, give L w r2 q⟩ hs
  cases y with
  | int i =>
    cases x with
    | tup xs =>
      obtain ⟨z, hz, q⟩ := q
      obtain ⟨p, vs, e1, h1, r1⟩ := rx
      obtain ⟨zv, h2, r2⟩ := atI_rep r1 hz
      exact ix_tup value slice pins s σ H a b v u Q I ra rb ⟨p, vs, i, zv, e1, ry, ext_t w.sub h1, h2, give L w r2 q⟩ hs
    | str z =>
      obtain ⟨hz, c, hc, q⟩ := q
      exact ix_str value slice pins s σ H a b v u Q I ra rb ⟨z, i, c, rx, ry, hz, hc, give L w (x := .str _) rfl q⟩ hs
    | _ => exact sq1 q rx ry
  | _ => exact q.elim
theorem qe_ix {a b : Expr} {ta tb : QT} (ha : QE X W a ta) (hb : QE X W b tb) (hp : PlainIx b := by exact fun _ _ => rfl) : QE X W (.Subscript a b pos) (q2 bIx ta tb) :=
  (pe_ix ixq ha hb hp).imp fun σ H Q h => tie2 (fun _ _ _ _ z => z) h
abbrev QO := Sl → Mem → (Option Int → Mem → Prop) → EK → Prop
def qoNone : QO := fun _ M Q _ => Q none M
def qoSome (t : QT) : QO := fun env M Q E => t env M (fun x M1 => ∃ i, x = .int i ∧ Q (some i) M1) E
def tieO (K : PySem.W.Frag) (W : WX) (t : QO) : TO := fun σ H Q => ∃ env M G Q0 E0, Sim K env M G σ H ∧ t env M Q0 E0 ∧ (∀ o M' H' G', Ext G G' → Wf K M' H' G' → Q0 o M' → Q o H') ∧ LiftE K G E0 (WE W σ)
abbrev QPO (X : Cx) (W : WX) (e : Option Expr) (t : QO) : Prop := PO X e (tieO X.K W t)
theorem _root_.L2.PO.imp {e : Option Expr} {t t' : TO} (h : PO X e t) (f : ∀ σ H Q, t' σ H Q → t σ H Q) : PO X e t' := ⟨fun pins s σ H Q I q => h.run pins s σ H Q I (f σ H Q q)⟩
theorem qo_none : QPO X W none qoNone := po_none.imp fun σ H Q ⟨env, M, G, Q0, E0, S, q, L, LE⟩ => L none M H G (Ext.refl G) S.wf q
theorem qo_some {e : Expr} {t : QT} (h : QE X W e t) : QPO X W (some e) (qoSome t) := (po_some h).imp fun σ H Q ⟨env, M, G, Q0, E0, S, q, L, LE⟩ => by
  refine ⟨env, M, G, _, E0, S, q, fun x M1 v H1 G1 e1 w1 r1 q1 => ?_, LE⟩
  obtain ⟨i, rfl, q1⟩ := q1
  exact ⟨i, r1, L (some i) M1 H1 G1 e1 w1 q1⟩
def qSl (t : QT) (lo hi : QO) : QT := fun env M Q E => t env M (fun x M1 => lo env M1 (fun l M2 => hi env M2 (fun u M3 => bSl l u x M3 Q) E) E) E
def rSlQ (K : PySem.W.Frag) : V → Option Int → Option Int → Hp → VK → Prop := fun a lo hi H Q => ∃ x M G Q0, Rep K G x a ∧ Wf K M H G ∧ bSl lo hi x M Q0 ∧ LiftV K G Q0 Q
theorem cut_rep {K : PySem.W.Frag} {G : Hp} {xs : List PV} {vs : List V} (lo hi : Option Int) (r : Reps K G xs vs) :
    Reps K G ((xs.drop (HT.sIx xs.length 0 lo)).take (HT.sIx xs.length xs.length hi - HT.sIx xs.length 0 lo)) (cutV vs lo hi) := by
  unfold cutV
  rw [r.length]
  exact (r.drop _).take _
theorem slq : SlR X (rSlQ X.K) := by
  intro pins s σ H a v vl vu lo hi sl Q I ra hs pl pu ⟨x, M, G, Q0, rx, w, q, L⟩
  have sq1 : ∀ {x : PV}, (match sqA M x with
      | some xs => Q0 (.lst ((xs.drop (HT.sIx xs.length 0 lo)).take (HT.sIx xs.length xs.length hi - HT.sIx xs.length 0 lo))) M
      | none => False) → Rep X.K G x a → ∃ T id, typeLookup (.type T) "__getitem__" = pure (some (.builtin id)) ∧ s.TypeIs v T ∧ wpAny (model X.prog X.w) X.A (getItem v (.ref sl)) (EP X pins σ Q) X.xe s := fun {x} q rx => by
    cases hx : sqA M x with
    | none => rw [hx] at q; exact q.elim
    | some xs =>
      rw [hx] at q
      obtain ⟨p, vs, e1, h1, r1⟩ := sqA_H hx rx w
      exact sl_list pins s σ H a v vl vu lo hi sl Q I ra hs pl pu ⟨p, vs, e1, h1, fun p hp => give_lst L w hp (cut_rep lo hi r1) q⟩
  cases x with
  | str z => exact sl_str pins s σ H a v vl vu lo hi sl Q I ra hs pl pu ⟨z, rx, q.1, give L w (x := .str _) rfl q.2⟩
  | tup xs =>
    obtain ⟨p, vs, e1, h1, r1⟩ := rx
    exact sl_tup pins s σ H a v vl vu lo hi sl Q I ra hs pl pu ⟨p, vs, e1, ext_t w.sub h1, by rw [← r1.length]; exact q.1, fun p hp => give_tup L w hp (cut_rep lo hi r1) q.2⟩
  | _ => exact sq1 q rx
theorem qe_slice {e : Expr} {lo hi : Option Expr} {t : QT} {tl th : QO} {p2 : Pos} (he : QE X W e t) (hl : QPO X W lo tl) (hu : QPO X W hi th) : QE X W (.Subscript e (.Slice lo hi none p2) pos) (qSl t tl th) :=
  (pe_slice slq he hl hu).imp fun σ H Q ⟨env, M, G, Q0, E0, S, q, L, LE⟩ => by
    refine ⟨env, M, G, _, E0, S, q, fun x M1 v H1 G1 e1 w1 r1 q1 => ?_, LE⟩
    refine ⟨env, M1, G1, _, E0, S.to e1 w1, q1, fun l M2 H2 G2 e2 w2 q2 => ?_, LE.mono e1⟩
    refine ⟨env, M2, G2, _, E0, S.to (e1.trans e2) w2, q2, fun u M3 H3 G3 e3 w3 q3 => ?_, LE.mono (e1.trans e2)⟩
    exact ⟨x, M3, G3, Q0, Rep.mono (e2.trans e3) x v r1, w3, q3, L.mono ((e1.trans e2).trans e3)⟩
end

/-! ### built-ins by name -/
abbrev FC := List PV → Mem → PK → Prop
def CallQ (X : Cx) (f : Value) (r : FC) : Prop := CallR X f fun vs H Q => ∃ xs M G Q0, Reps X.K G xs vs ∧ Wf X.K M H G ∧ r xs M Q0 ∧ LiftV X.K G Q0 Q
def qCB (r : FC) (t : QA) : QT := fun env M Q E => t env M (fun xs M1 => r xs M1 Q) E
section
variable {X : Cx} {W : WX} {pos : Pos}
theorem tieCB {r : FC} {t : QA} {σ : L2.St} {H : Hp} {Q : VK} (h : tie X.K W (qCB r t) σ H Q) : tCB (fun vs H Q => ∃ xs M G Q0, Reps X.K G xs vs ∧ Wf X.K M H G ∧ r xs M Q0 ∧ LiftV X.K G Q0 Q) (tieA X.K W t) σ H Q := by
  obtain ⟨env, M, G, Q0, E0, S, q, L, LE⟩ := h
  exact ⟨env, M, G, _, E0, S, q, fun xs M1 vs H1 G1 e1 w1 r1 q1 => ⟨xs, M1, G1, Q0, r1, w1, q1, L.mono e1⟩, LE⟩
theorem qe_callB {id : String} {x : Str} {p : Pos} {e : Expr} {es : List Expr} {r : FC} {t : QA} (hc : CallQ X (.builtin id) r) (hm : X.mg x = none) (ha : QPA X W (e :: es) t) (hg : Gl X x := by rfl) (hv : bootBuiltins x = some (.builtin id) := by decide +kernel) (hn : x ≠ "__name__" := by decide) (hdb : (x == ("__debug__" : Str)) = false := by decide)
    (he : starEach (e :: es) X.env = (false, eval e X.env) :: starEach es X.env := by rfl) (hpl : (backTo pos (starEach es X.env)).any (·.1) = false := by rfl) : QE X W (.Call (.Name x p) (e :: es) [] pos) (qCB r t) :=
  (pe_callB hc hg hm hv ha hn hdb he hpl).imp fun σ H Q h => tieCB h
theorem qe_callT {T : String} {x : Str} {p : Pos} {e : Expr} {es : List Expr} {r : FC} {t : QA} (hc : CallQ X (.type T) r) (hm : X.mg x = none) (ha : QPA X W (e :: es) t) (hg : Gl X x := by rfl) (hv : bootBuiltins x = some (.type T) := by decide +kernel) (hn : x ≠ "__name__" := by decide) (hdb : (x == ("__debug__" : Str)) = false := by decide)
    (he : starEach (e :: es) X.env = (false, eval e X.env) :: starEach es X.env := by rfl) (hpl : (backTo pos (starEach es X.env)).any (·.1) = false := by rfl) : QE X W (.Call (.Name x p) (e :: es) [] pos) (qCB r t) :=
  (pe_callTy hc hg hm hv ha hn hdb he hpl).imp fun σ H Q h => tieCB h
theorem reps1 {K : PySem.W.Frag} {G : Hp} {x : PV} {vs : List V} (r : Reps K G [x] vs) : ∃ v, vs = [v] ∧ Rep K G x v := by
  obtain ⟨v, ws, rfl, h, h2⟩ := r
  cases h2
  exact ⟨v, rfl, h⟩
theorem reps2 {K : PySem.W.Frag} {G : Hp} {x y : PV} {vs : List V} (r : Reps K G [x, y] vs) : ∃ v u, vs = [v, u] ∧ Rep K G x v ∧ Rep K G y u := by
  obtain ⟨v, ws, rfl, h, h2⟩ := r
  obtain ⟨u, rfl, h3⟩ := reps1 h2
  exact ⟨v, u, rfl, h, h3⟩
def len1 (x : PV) (M : Mem) (Q : PK) : Prop := match x with
  | .str z => z.length ≤ sizeLine ∧ Q (.int z.length) M
  | .tup ys => Q (.int ys.length) M
  | x => match sqA M x with
    | some ys => Q (.int ys.length) M
    | none => False
def cLen : FC := fun xs M Q => match xs with
  | [x] => len1 x M Q
  | _ => False
theorem cq_len : CallQ X (.builtin "len") cLen := by
  intro pins s σ H vs us Q I r ⟨xs, M, G, Q0, rx, w, q, L⟩
  unfold cLen at q
  split at q
  · rename_i x
    obtain ⟨v, rfl, rz⟩ := reps1 rx
    clear rx
    have sq1 : ∀ {x : PV}, (match sqA M x with
        | some ys => Q0 (.int ys.length) M
        | none => False) → Rep X.K G x v → wpAny (model X.prog X.w) X.A (call (.builtin "len") us) (EP X pins σ Q) X.xe s := fun {x} q rx => by
      cases hx : sqA M x with
      | none => rw [hx] at q; exact q.elim
      | some ys =>
        rw [hx] at q
        obtain ⟨p, ws, rfl, h1, r1⟩ := sqA_H hx rx w
        exact call_len pins s σ H _ us Q I r ⟨_, ws.length, rfl, .inl ⟨ws, h1, rfl⟩, give L w (x := .int ws.length) rfl (by rw [← r1.length]; exact q)⟩
    unfold len1 at q
    split at q
    · cases rz
      exact call_len pins s σ H _ us Q I r ⟨.str _, _, rfl, ⟨q.1, rfl⟩, give L w (x := .int _) rfl q.2⟩
    · obtain ⟨p, ws, rfl, h1, r1⟩ := rz
      exact call_len pins s σ H _ us Q I r ⟨_, ws.length, rfl, .inr ⟨ws, ext_t w.sub h1, rfl⟩, give L w (x := .int ws.length) rfl (by rw [← r1.length]; exact q)⟩
    · exact sq1 q rz
  · exact q.elim
def cMax : FC := fun xs M Q => match xs with
  | [.int i, .int j] => Q (.int (max i j)) M
  | _ => False
def cMin : FC := fun xs M Q => match xs with
  | [.int i, .int j] => Q (.int (min i j)) M
  | _ => False
def cAbs : FC := fun xs M Q => match xs with
  | [.int i] => Q (.int i.natAbs) M
  | _ => False
def cInt : FC := fun xs M Q => match xs with
  | [.int i] => Q (.int i) M
  | [.bl b] => Q (.int (if b then 1 else 0)) M
  | [.str a] => ∃ n, PySem.intText? a = some n ∧ a.length ≤ 640 ∧ Q (.int n) M
  | _ => False
def cStr : FC := fun xs M Q => match xs with
  | [.int i] => i.natAbs.log2 < 1920 ∧ Q (.str (toString i)) M
  | _ => False
def cDivmod : FC := fun xs M Q => match xs with
  | [.int i, .int j] => CDivP i j ∧ Q (.tup [.int (i / j), .int (i % j)]) M
  | _ => False
theorem cq_max (hc : X.calm = true) : CallQ X (.builtin "max") cMax := by
  intro pins s σ H vs us Q I r ⟨xs, M, G, Q0, rx, w, q, L⟩
  unfold cMax at q
  split at q
  · obtain ⟨v, u, rfl, r1, r2⟩ := reps2 rx
    cases r1; cases r2
    exact call_max2 hc pins s σ H _ us Q I r ⟨_, _, rfl, give L w (x := .int _) (by show V.int _ = V.int _; congr 1; omega) q⟩
  · exact q.elim
theorem cq_min (hc : X.calm = true) : CallQ X (.builtin "min") cMin := by
  intro pins s σ H vs us Q I r ⟨xs, M, G, Q0, rx, w, q, L⟩
  unfold cMin at q
  split at q
  · obtain ⟨v, u, rfl, r1, r2⟩ := reps2 rx
    cases r1; cases r2
    exact call_min2 hc pins s σ H _ us Q I r ⟨_, _, rfl, give L w (x := .int _) (by show V.int _ = V.int _; congr 1; omega) q⟩
  · exact q.elim
theorem cq_abs : CallQ X (.builtin "abs") cAbs := by
  intro pins s σ H vs us Q I r ⟨xs, M, G, Q0, rx, w, q, L⟩
  unfold cAbs at q
  split at q
  · obtain ⟨v, rfl, r1⟩ := reps1 rx
    cases r1
    exact call_abs pins s σ H _ us Q I r ⟨_, rfl, give L w (x := .int _) (by show V.int _ = V.int _; congr 1; omega) q⟩
  · exact q.elim
theorem cq_int : CallQ X (.type "int") cInt := by
  intro pins s σ H vs us Q I r ⟨xs, M, G, Q0, rx, w, q, L⟩
  unfold cInt at q
  split at q
  · obtain ⟨v, rfl, r1⟩ := reps1 rx
    cases r1
    exact call_int1 pins s σ H _ us Q I r (.inl ⟨_, rfl, give L w (x := .int _) rfl q⟩)
  · obtain ⟨v, rfl, r1⟩ := reps1 rx
    cases r1
    exact call_int1 pins s σ H _ us Q I r (.inr ⟨_, rfl, give L w (x := .int _) rfl q⟩)
  · obtain ⟨v, rfl, r1⟩ := reps1 rx
    cases r1
    obtain ⟨n, h1, h2, q⟩ := q
    exact call_int_str pins s σ H _ us Q I r ⟨_, n, rfl, h1, h2, give L w (x := .int _) rfl q⟩
  · exact q.elim
theorem cq_str : CallQ X (.type "str") cStr := by
  intro pins s σ H vs us Q I r ⟨xs, M, G, Q0, rx, w, q, L⟩
  unfold cStr at q
  split at q
  · obtain ⟨v, rfl, r1⟩ := reps1 rx
    cases r1
    exact call_str_int pins s σ H _ us Q I r ⟨_, rfl, q.1, give L w (x := .str _) rfl q.2⟩
  · exact q.elim
theorem cq_divmod : CallQ X (.builtin "divmod") cDivmod := by
  intro pins s σ H vs us Q I r ⟨xs, M, G, Q0, rx, w, q, L⟩
  unfold cDivmod at q
  split at q
  · obtain ⟨v, u, rfl, r1, r2⟩ := reps2 rx
    cases r1; cases r2
    exact call_divmodW pins s σ H _ us Q I r ⟨_, _, rfl, q.1, fun p hp => give_tup L w hp (Reps.cons (x := .int _) rfl (Reps.one (x := .int _) rfl)) q.2⟩
  · exact q.elim
/-- truths -/
def bls : List PV → Option (List Bool)
  | [] => some []
  | .bl b :: xs => (bls xs).map fun bs => b :: bs
  | _ :: _ => none
theorem bls_rep {K : PySem.W.Frag} {G : Hp} : ∀ {xs : List PV} {vs : List V} {bs : List Bool}, bls xs = some bs → Reps K G xs vs → vs = bs.map V.bl
  | [], _, _, h, r => by cases h; cases r; rfl
  | x :: xs, _, bs, h, r => by
    obtain ⟨v, ws, rfl, h2, h3⟩ := r
    cases x with
    | bl b =>
      replace h : (bls xs).map (fun bs => b :: bs) = some bs := h
      cases hb : bls xs with
      | none => rw [hb] at h; cases h
      | some cs =>
        rw [hb] at h
        cases h
        cases h2
        rw [bls_rep hb h3]
        rfl
    | _ => cases h
def cAll : FC := fun xs M Q => match xs with
  | [x] => (match sq M x with
    | some ys => ∃ bs, bls ys = some bs ∧ Q (.bl (bs.all id)) M
    | none => False)
  | _ => False
def cAny : FC := fun xs M Q => match xs with
  | [x] => (match sq M x with
    | some ys => ∃ bs, bls ys = some bs ∧ Q (.bl (bs.any id)) M
    | none => False)
  | _ => False
theorem cq_all (hc : X.calm = true) : CallQ X (.builtin "all") cAll := by
  intro pins s σ H vs us Q I r ⟨xs, M, G, Q0, rx, w, q, L⟩
  unfold cAll at q
  split at q
  · obtain ⟨v, rfl, r1⟩ := reps1 rx
    rename_i x
    cases hx : sq M x with
    | none => rw [hx] at q; exact q.elim
    | some ys =>
      rw [hx] at q
      obtain ⟨bs, hb, q⟩ := q
      obtain ⟨p, ws, rfl, h1, r1⟩ := sq_H hx r1 w
      have e := bls_rep hb r1
      subst e
      exact cr_all hc pins s σ H _ us Q I r ⟨_, bs, rfl, SqL.of h1, give L w (x := .bl _) rfl q⟩
  · exact q.elim
theorem cq_any (hc : X.calm = true) : CallQ X (.builtin "any") cAny := by
  intro pins s σ H vs us Q I r ⟨xs, M, G, Q0, rx, w, q, L⟩
  unfold cAny at q
  split at q
  · obtain ⟨v, rfl, r1⟩ := reps1 rx
    rename_i x
    cases hx : sq M x with
    | none => rw [hx] at q; exact q.elim
    | some ys =>
      rw [hx] at q
      obtain ⟨bs, hb, q⟩ := q
      obtain ⟨p, ws, rfl, h1, r1⟩ := sq_H hx r1 w
      have e := bls_rep hb r1
      subst e
      exact cr_any hc pins s σ H _ us Q I r ⟨_, bs, rfl, SqL.of h1, give L w (x := .bl _) rfl q⟩
  · exact q.elim
def qBits (t : QT) : QT := fun env M Q E => t env M (fun x M1 => ∃ i, x = .int i ∧ Q (.int (Builtin.Int.intBits i : Nat)) M1) E
theorem qe_bits {o : Expr} {t : QT} {apos : Pos} (ho : QE X W o t) (hbase : attributeBase o "bit_length" X.env (eval o X.env) = eval o X.env := by rfl) (hline : (apos.endLine == pos.line) = true := by rfl) : QE X W (.Call (.Attribute o "bit_length" apos) [] [] pos) (qBits t) :=
  (pe_bits ho hbase hline).imp fun σ H Q ⟨env, M, G, Q0, E0, S, q, L, LE⟩ => by
    refine ⟨env, M, G, _, E0, S, q, fun x M1 v H1 G1 e1 w1 r1 q1 => ?_, LE⟩
    obtain ⟨i, rfl, q1⟩ := q1
    exact ⟨i, r1, give (L.mono e1) w1 (x := .int _) rfl q1⟩
def qNeg (t : QT) : QT := fun env M Q E => t env M (fun x M1 => ∃ i, x = .int i ∧ Q (.int (-i)) M1) E
theorem qe_neg {a : Expr} {t : QT} (h : QE X W a t) : QE X W (.UnaryOp .USub a pos) (qNeg t) := (pe_un un_neg h).imp fun σ H Q ⟨env, M, G, Q0, E0, S, q, L, LE⟩ => by
  refine ⟨env, M, G, _, E0, S, q, fun x M1 v H1 G1 e1 w1 r1 q1 => ?_, LE⟩
  obtain ⟨i, rfl, q1⟩ := q1
  exact ⟨i, r1, give (L.mono e1) w1 (x := .int _) rfl q1⟩
end
end TQ

namespace TQ
open PySem PySem.Spec PyProof.Rows L2
/-! ### promises -/
abbrev SpQ := List PV → Mem → PK → EK → Prop
def spQ (K : PySem.W.Frag) (s : SpQ) : Sp := fun vs H Q E => ∃ xs M G Q0 E0, Reps K G xs vs ∧ Wf K M H G ∧ s xs M Q0 E0 ∧ LiftV K G Q0 Q ∧ LiftE K G E0 E
abbrev FnQ (P : Program) (w : World) (K : PySem.W.Frag) (mg : Str → Option Value) (base : Heap) (k : Nat) (f : Addr) (fd : FuncData) (ps : List Str) (s : SpQ) : Prop := FnOk P w K mg base (L2.CX P w) k f fd ps (spQ K s)
def startQ (N : List Str) (xs : List PV) : Sl := xs.map some ++ List.replicate (N.length - xs.length) none
theorem start_env {K : PySem.W.Frag} {G : Hp} {N : List Str} {xs : List PV} {vs : List V} (r : Reps K G xs vs) : EnvR K G (startQ N xs) (L2.start N vs) := by
  unfold startQ L2.start
  refine ⟨by simp [r.length], fun i x e => ?_⟩
  by_cases hi : i < xs.length
  · rw [List.getElem?_append_left (by simpa using hi), List.getElem?_map] at e
    cases hx : xs[i]? with
    | none => rw [hx] at e; cases e
    | some y =>
      rw [hx] at e
      cases e
      obtain ⟨v, h1, h2⟩ := r.get hx
      refine ⟨v, ?_, h2⟩
      rw [List.getElem?_append_left (by simpa [← r.length] using hi), List.getElem?_map, h1]
      rfl
  · rw [List.getElem?_append_right (by simpa using hi)] at e
    rw [List.getElem?_replicate] at e
    split at e
    · cases e
    · cases e
section
variable {P : Program} {w : World} {K : PySem.W.Frag} {mg : Str → Option Value} {base : Heap}
theorem okQ {x qual : Str} {st : Stmt} {f : Addr} {fd : FuncData} {N ps : List Str} {k : Nat} {s : SpQ} (F : Fun K x qual st f fd) (S : FnScope N ps (defScope st)) (len : ∀ xs M Q E, s xs M Q E → xs.length = ps.length)
    (hbody : ∀ (cdv : Value) (A : Around) (outer : List Env) (s0 : Shared) (H0 : Hp) (E : XK), Room k (A.deeper (envOfC qual (defScope st) s0.heap.objs.size f cdv)) →
      ∃ t, QPSs (cxOf (L2.CX P w) P w K mg base N qual (defScope st) f cdv A outer s0 H0 E) (fun cls d _ H => E cls d H) (defBody st) t ∧
        ∀ xs M Q0 E0, s xs M Q0 E0 → t { nx := fun _ M => Q0 .non M, rt := Q0, ex := fun c pl _ M => E0 c pl M } (startQ N xs) M) : FnQ P w K mg base (k + 1) f fd ps s := by
  refine F.okX S (fun vs H Q E h => ?_) (fun cdv A outer s0 H vs Q E hr h => ?_)
  · obtain ⟨xs, M, G, Q0, E0, r, _, q, _⟩ := h
    rw [← r.length]
    exact len xs M Q0 E0 q
  · obtain ⟨xs, M, G, Q0, E0, r, w, q, L, LE⟩ := h
    obtain ⟨t, h1, h2⟩ := hbody cdv A outer s0 H E hr
    refine ⟨_, h1, startQ N xs, M, G, _, ⟨start_env r, w⟩, h2 xs M Q0 E0 q, ?_⟩
    exact ⟨fun env' M' σ' H' G' e S q => L .non M' .non H' G' e S.wf rfl q, L, fun _ _ _ _ _ _ _ q => q, fun _ _ _ _ _ _ _ q => q, fun c pl env' M' d σ' H' G' e S x q => LE c pl M' d H' G' e S.wf x q⟩
end

/-! ### calls of defs -/
def qCall (s : SpQ) (t : QA) : QT := fun env M Q E => t env M (fun xs M1 => s xs M1 Q E) E
section
variable {X : Cx} {W : WX} {pos : Pos} {k : Nat} {f C : Addr} {fd : FuncData} {ps : List Str} {sp : Sp} {s : SpQ} {x m : Str} {p apos : Pos} {e o : Expr} {es : List Expr}
/-- the callee runs, what it raises goes where W says -/
theorem run_q {dvs : List V} {ds : List Value} {pins : List (Addr × Obj)} {σ : L2.St} {H : Hp} {sh : Shared} {Q : VK} {us : List Value} {vs : List V} (F : FnOk X.prog X.w X.K X.mg X.base (L2.CX X.prog X.w) k f fd ps sp) (hr : Room k X.A)
    (hb : Binds X.K fd ps ds) (hd : Vals dvs ds) (tk : Takes X W) (I : Inv X pins σ H sh) (r : Vals vs us) (h : sp (vs ++ dvs) H Q (WE W σ)) : wpAny (model X.prog X.w) X.A (call (.ref f) us) (EP X pins σ Q) X.xe sh := by
  have r2 := r.append hd
  have hl : (us ++ ds).length = ps.length := r2.length ▸ F.len _ _ _ _ h
  refine wpAny_call (codeAny_mono (F.run _ _ _ _ ⟨us, []⟩ _ _ _ _ hr I.env0 (hb sh us I.kIn hl) r2 h) fun r s' hq => ?_)
  match r, hq with
  | .error e, hq => exact passAt tk σ pins H sh e s' I hq
  | .ok (.ret u), hq => exact I.after hq
  | .ok .next, hq => exact hq.elim
  | .ok .brk, hq => exact hq.elim
  | .ok .cont, hq => exact hq.elim
theorem qe_call {t : QA} (F : FnQ X.prog X.w X.K X.mg X.base k f fd ps s) (hr : Room k X.A) (hm : X.mg x = some (.ref f)) (hk : PySem.W.keepIn X.K (.ref f) = true) (hb : Binds X.K fd ps []) (tk : Takes X W) (ha : QPA X W (e :: es) t) (hg : Gl X x := by rfl)
    (hdb : (x == ("__debug__" : Str)) = false := by decide) (he : starEach (e :: es) X.env = (false, eval e X.env) :: starEach es X.env := by rfl) (hpl : (backTo pos (starEach es X.env)).any (·.1) = false := by rfl) :
    QE X W (.Call (.Name x p) (e :: es) [] pos) (qCall s t) :=
  (pe_callS F hr hg hm hk hb (fun σ => passAt tk σ) ha hdb he hpl).imp fun σ H Q ⟨env, M, G, Q0, E0, S, q, L, LE⟩ =>
    ⟨env, M, G, _, E0, S, q, fun xs M1 vs H1 G1 e1 w1 r1 q1 => ⟨xs, M1, G1, Q0, E0, r1, w1, q1, L.mono e1, LE.mono e1⟩, LE⟩
theorem qe_call0 (F : FnQ X.prog X.w X.K X.mg X.base k f fd ps s) (hr : Room k X.A) (hm : X.mg x = some (.ref f)) (hk : PySem.W.keepIn X.K (.ref f) = true) (hb : Binds X.K fd ps []) (tk : Takes X W) (hg : Gl X x := by rfl)
    (hdb : (x == ("__debug__" : Str)) = false := by decide) : QE X W (.Call (.Name x p) [] [] pos) (qCall s qNil) := by
  refine ⟨fun pins sh σ H Q I ⟨env, M, G, Q0, E0, S, q, L, LE⟩ => wpAny_Call_Name_kw (ld_glob I hg hm (PySem.W.callWith_K0 I.kIn hk ?_) hdb)⟩
  exact run_q (us := []) (vs := []) (ds := []) (dvs := []) F hr hb .nil tk I .nil ⟨[], M, G, Q0, E0, Reps.nil, S.wf, q, L, LE⟩

/-! ### fields, methods -/
/-- what an instance holds -/
def own (M : Mem) : PV → Option (Addr × List Str × List PV)
  | .obj C ns vs => some (C, ns, vs)
  | .ref a => match M a with
    | some (.ins C ns vs) => some (C, ns, vs)
    | _ => none
  | _ => none
/-- the value of a name -/
def lk (f : Str) : List Str → List PV → Option PV
  | n :: ns, x :: xs => if f = n then some x else lk f ns xs
  | _, _ => none
theorem lk_rep {K : PySem.W.Frag} {G : Hp} {f : Str} : ∀ {ns : List Str} {xs : List PV} {vs : List V} {x : PV}, lk f ns xs = some x → Reps K G xs vs → ∃ v, (ns.zip vs).lookup f = some v ∧ Rep K G x v
  | [], _, _, _, h, _ => by cases h
  | _ :: _, [], _, _, h, _ => by cases h
  | n :: ns, x :: xs, _, y, h, r => by
    obtain ⟨v, ws, rfl, h2, h3⟩ := r
    unfold lk at h
    rw [List.zip_cons_cons, List.lookup_cons]
    by_cases e : f = n
    · rw [if_pos e] at h
      cases h
      subst e
      exact ⟨v, by simp, h2⟩
    · rw [if_neg e] at h
      have hb : (f == n) = false := by simpa using e
      rw [hb]
      exact lk_rep h h3
theorem lk_none {f : Str} : ∀ {ns : List Str} {vs : List V}, f ∉ ns → (ns.zip vs).lookup f = none
  | [], _, _ => rfl
  | _ :: _, [], _ => rfl
  | n :: ns, v :: vs, h => by
    rw [List.zip_cons_cons, List.lookup_cons]
    have hb : (f == n) = false := by
      have : ¬ f = n := fun e => h (by rw [e]; exact List.mem_cons_self)
      simpa using this
    rw [hb]
    exact lk_none fun z => h (List.mem_cons_of_mem _ z)
theorem own_H {K : PySem.W.Frag} {G H : Hp} {M : Mem} {x : PV} {v : V} {ns : List Str} {xs : List PV} (h : own M x = some (C, ns, xs)) (r : Rep K G x v) (w : Wf K M H G) : ∃ p dx vs, v = .ref p ∧ H p = some (.ins C dx (ns.zip vs)) ∧ Reps K G xs vs := by
  cases x with
  | obj C' ns' xs' =>
    cases h
    obtain ⟨a, dx, vs, h1, h2, h3⟩ := r
    exact ⟨a, dx, vs, h1, w.sub _ _ h2, h3⟩
  | ref a =>
    replace h : (match M a with
      | some (.ins C ns vs) => some (C, ns, vs)
      | _ => none) = some (C, ns, xs) := h
    split at h
    · rename_i hm
      cases h
      obtain ⟨_, dx, vs, h1, h2⟩ := w.mem a _ hm
      exact ⟨a, dx, vs, r, h1, h2⟩
    · cases h
  | _ => cases h
def fldP (K : PySem.W.Frag) (f : Str) (x : PV) (M : Mem) (Q : PK) : Prop := ∃ C ns xs y, own M x = some (C, ns, xs) ∧ (Cls K C ∧ NoAttr K C f) ∧ lk f ns xs = some y ∧ Q y M
theorem fldP_own {K : PySem.W.Frag} {f : Str} {x : PV} {M : Mem} {Q : PK} {C : Addr} {ns : List Str} {xs : List PV} {y : PV} (o : own M x = some (C, ns, xs)) (c : Cls K C) (n : NoAttr K C f) (h : lk f ns xs = some y) : fldP K f x M Q = Q y M := propext
  ⟨fun ⟨_, _, _, _, h1, _, h2, q⟩ => by rw [o] at h1; cases h1; rw [h] at h2; cases h2; exact q, fun q => ⟨_, _, _, _, o, ⟨c, n⟩, h, q⟩⟩
def qFld (K : PySem.W.Frag) (f : Str) (t : QT) : QT := fun env M Q E => t env M (fun x M1 => fldP K f x M1 Q) E
theorem qe_fld {f : Str} {t : QT} (he : QE X W e t) (hb : attributeBase e f X.env (eval e X.env) = eval e X.env := by rfl) : QE X W (.Attribute e f pos) (qFld X.K f t) := (pe_fld he hb).imp fun σ H Q ⟨env, M, G, Q0, E0, S, q, L, LE⟩ => by
  refine ⟨env, M, G, _, E0, S, q, fun x M1 v H1 G1 e1 w1 r1 q1 => ?_, LE⟩
  obtain ⟨C, ns, xs, y, h1, ⟨hc, hn⟩, h2, q1⟩ := q1
  obtain ⟨a, dx, vs, h3, h4, h5⟩ := own_H h1 r1 w1
  obtain ⟨v', h6, h7⟩ := lk_rep h2 h5
  exact ⟨a, C, dx, _, v', h3, h4, hc, hn, h6, give (L.mono e1) w1 h7 q1⟩
/-- o.m(..), o an instance of the class at C -/
def mthP (C : Addr) (m : Str) (x : PV) (M : Mem) (R : Prop) : Prop := ∃ ns xs, own M x = some (C, ns, xs) ∧ m ∉ ns ∧ R
theorem mthP_own {C : Addr} {m : Str} {x : PV} {M : Mem} {R : Prop} {ns : List Str} {xs : List PV} (o : own M x = some (C, ns, xs)) (h : m ∉ ns) : mthP C m x M R = R := propext
  ⟨fun ⟨_, _, _, _, q⟩ => q, fun q => ⟨_, _, o, h, q⟩⟩
def qMeth (C : Addr) (m : Str) (s : SpQ) (to : QT) (t : QA) : QT := fun env M Q E => to env M (fun x M1 => mthP C m x M1 (t env M1 (fun ys M2 => s (x :: ys) M2 Q E) E)) E
theorem qe_meth {to : QT} {t : QA} {pl : Sem Bool} (he : QE X W o to) (c : Cls X.K C) (hm : Meth X.K C m f) (F : FnQ X.prog X.w X.K X.mg X.base k f fd ps s) (hr : Room k X.A) (hb : Binds X.K fd ps []) (tk : Takes X W) (ha : QPA X W (e :: es) t)
    (hst : starEach (e :: es) X.env = (false, eval e X.env) :: starEach es X.env := by rfl) (hpl : (backTo pos (starEach es X.env)).any (·.1) = false := by rfl)
    (ht : eval (.Call (.Attribute o m apos) (e :: es) [] pos) X.env = (do
      let recv ← eval o X.env
      standAt apos.atName
      let (g, first) ← holding [recv] (getMethod recv m pl)
      callWith pos g first (backTo pos (starEach (e :: es) X.env)) (backToKw pos (keywordEach [] X.env))) := by rfl) :
    QE X W (.Call (.Attribute o m apos) (e :: es) [] pos) (qMeth C m s to t) := by
  refine ⟨fun pins sh σ H Q I ⟨env, M, G, Q0, E0, S, q, L, LE⟩ => PySem.W.methodCall_KW (pl := pl) (thn (he.run pins sh σ H (fun v H1 => ∃ (a dx : Addr) (fs : List (Str × V)), v = .ref a ∧ H1 a = some (.ins C dx fs) ∧ fs.lookup m = none ∧ tieA X.K W t σ H1 fun vs H2 => spQ X.K s (v :: vs) H2 Q (WE W σ)) I ?_) fun u s1 ⟨v, H1, I1, rv, a, dx, fs, ev, ea, l, q1⟩ => ?_) ht⟩
  · refine ⟨env, M, G, _, E0, S, q, fun x M1 v H1 G1 e1 w1 r1 q1 => ?_, LE⟩
    obtain ⟨ns, xs, h1, hn, q1⟩ := q1
    obtain ⟨a, dx, vs, h3, h4, h5⟩ := own_H h1 r1 w1
    refine ⟨a, dx, _, h3, h4, lk_none hn, env, M1, G1, _, E0, S.to e1 w1, q1, fun ys M2 us H2 G2 e2 w2 r2 q2 => ?_, LE.mono e1⟩
    exact ⟨x :: ys, M2, G2, Q0, E0, Reps.cons (Rep.mono e2 _ _ r1) r2, w2, q2, L.mono (e1.trans e2), LE.mono (e1.trans e2)⟩
  · subst ev
    obtain rfl : u = Value.ref a := rv
    refine getmeth_ok I1 ea c hm l (PySem.W.callWith_K (first := [.ref a]) (h₀ := X.base) I.ok.mod.kin hm.kp (thn (ha.run pos pins s1 σ H1 _ I1 q1) fun us s2 ⟨vs, H2, I2, r, q2⟩ => ⟨I2.kIn, ?_⟩) hst hpl)
    exact run_q (us := .ref a :: us) (vs := .ref a :: vs) (ds := []) (dvs := []) F hr hb .nil tk I2 (.cons rfl r) (by rw [List.append_nil]; exact q2)
theorem qe_meth0 {to : QT} {pl : Sem Bool} (he : QE X W o to) (c : Cls X.K C) (hm : Meth X.K C m f) (F : FnQ X.prog X.w X.K X.mg X.base k f fd ps s) (hr : Room k X.A) (hb : Binds X.K fd ps []) (tk : Takes X W)
    (ht : eval (.Call (.Attribute o m apos) [] [] pos) X.env = (do
      let recv ← eval o X.env
      standAt apos.atName
      let (g, first) ← holding [recv] (getMethod recv m pl)
      callWith pos g first (backTo pos (starEach [] X.env)) (backToKw pos (keywordEach [] X.env))) := by rfl) :
    QE X W (.Call (.Attribute o m apos) [] [] pos) (qMeth C m s to qNil) := by
  refine ⟨fun pins sh σ H Q I ⟨env, M, G, Q0, E0, S, q, L, LE⟩ => PySem.W.methodCall_KW (pl := pl) (thn (he.run pins sh σ H (fun v H1 => ∃ (a dx : Addr) (fs : List (Str × V)), v = .ref a ∧ H1 a = some (.ins C dx fs) ∧ fs.lookup m = none ∧ spQ X.K s [v] H1 Q (WE W σ)) I ?_) fun u s1 ⟨v, H1, I1, rv, a, dx, fs, ev, ea, l, q1⟩ => ?_) ht⟩
  · refine ⟨env, M, G, _, E0, S, q, fun x M1 v H1 G1 e1 w1 r1 q1 => ?_, LE⟩
    obtain ⟨ns, xs, h1, hn, q1⟩ := q1
    obtain ⟨a, dx, vs, h3, h4, h5⟩ := own_H h1 r1 w1
    exact ⟨a, dx, _, h3, h4, lk_none hn, [x], M1, G1, Q0, E0, Reps.one r1, w1, q1, L.mono e1, LE.mono e1⟩
  · subst ev
    obtain rfl : u = Value.ref a := rv
    refine getmeth_ok I1 ea c hm l (PySem.W.callWith_K0 (first := [.ref a]) I1.kIn hm.kp ?_)
    exact run_q (us := [.ref a]) (vs := [.ref a]) (ds := []) (dvs := []) F hr hb .nil tk I1 (.cons rfl .nil) (by rw [List.append_nil]; exact q1)

/-! ### new instances that nobody writes -/
/-- __init__ stores its arguments -/
def spInit (C : Addr) (ns : List Str) : Sp := fun vs H Q _ => ∃ x dx us, vs = .ref x :: us ∧ us.length = ns.length ∧ H x = some (.ins C dx []) ∧ Q .non (upd H x (.ins C dx (ns.zip us)))
def qMake (C : Addr) (ns : List Str) (dps : List PV) (t : QA) : QT := fun env M Q E => t env M (fun xs M1 => (xs ++ dps).length = ns.length ∧ Q (.obj C ns (xs ++ dps)) M1) E
theorem run_makeQ {dvs : List V} {ds : List Value} {pins : List (Addr × Obj)} {σ : L2.St} {H : Hp} {sh : Shared} {Q : VK} {us : List Value} {vs : List V} (Mk1 : Mk X.K C f) (F : FnOk X.prog X.w X.K X.mg X.base (L2.CX X.prog X.w) k f fd ps sp)
    (hr : Room (k + 1) X.A) (hb : Binds X.K fd ps ds) (hd : Vals dvs ds) (tk : Takes X W) (I : Inv X pins σ H sh) (r : Vals vs us)
    (h : ∀ y dx, H y = none → H dx = none → dx ≠ y → sp (.ref y :: (vs ++ dvs)) (upd (upd H dx (.own y)) y (.ins C dx [])) (fun v H2 => v = .non ∧ Q (.ref y) H2) (WE W σ)) :
    wpAny (model X.prog X.w) X.A (call (.ref C) us) (EP X pins σ Q) X.xe sh := by
  have q0 := h (sh.heap.objs.size + 1) sh.heap.objs.size (I.hok.fresh (Nat.le_succ _)) (I.hok.fresh (Nat.le_refl _)) (Nat.ne_of_lt (Nat.lt_succ_self _))
  have J := Inv.made (C := C) I
  have r2 : Vals (V.ref (sh.heap.objs.size + 1) :: (vs ++ dvs)) (Value.ref (sh.heap.objs.size + 1) :: (us ++ ds)) := .cons rfl (r.append hd)
  have hl : (Value.ref (sh.heap.objs.size + 1) :: us ++ ds).length = ps.length := (r2.length ▸ F.len _ _ _ _ q0 : _)
  refine wpAny_call (make_map (f := f) I.kIn Mk1.makes Mk1.init (beq_iff_eq.mp Mk1.fn) (codeAny_mono (F.run _ X.stack _ _ ⟨Value.ref (sh.heap.objs.size + 1) :: us, []⟩ _ _ _ _ (hr.make C us []) (J.env0.make C us []) (hb _ (_ :: us) J.kIn hl) r2 q0) fun r s' hq => ?_))
  match r, hq with
  | .error e, hq => exact passAt tk σ pins _ _ e s' J hq
  | .ok (.ret u), hq =>
    obtain ⟨v, H', I3, rv, ev, q3⟩ := J.after hq
    subst ev
    exact ⟨rv, V.ref (sh.heap.objs.size + 1), H', I3, rfl, q3⟩
  | .ok .next, hq => exact hq.elim
  | .ok .brk, hq => exact hq.elim
  | .ok .cont, hq => exact hq.elim
theorem qe_make {t : QA} {dvs : List V} {dps : List PV} {ds : List Value} {ns : List Str} (Mk1 : Mk X.K C f) (F : FnOk X.prog X.w X.K X.mg X.base (L2.CX X.prog X.w) k f fd ps (spInit C ns)) (hr : Room (k + 1) X.A) (hm : X.mg x = some (.ref C)) (hb : Binds X.K fd ps ds) (hd : Vals dvs ds)
    (hp : ∀ G, Reps X.K G dps dvs) (tk : Takes X W) (ha : QPA X W (e :: es) t) (hg : Gl X x := by rfl)
    (hdb : (x == ("__debug__" : Str)) = false := by decide) (he : starEach (e :: es) X.env = (false, eval e X.env) :: starEach es X.env := by rfl) (hpl : (backTo pos (starEach es X.env)).any (·.1) = false := by rfl) :
    QE X W (.Call (.Name x p) (e :: es) [] pos) (qMake C ns dps t) := by
  refine ⟨fun pins sh σ H Q I ⟨env, M, G, Q0, E0, S, q, L, LE⟩ => wpAny_Call_Name_kw (ld_glob I hg hm (PySem.W.callWith_K (h₀ := X.base) I.ok.mod.kin Mk1.kp (thn (ha.run pos pins sh σ H (fun vs H1 => ∃ xs M1 G1, Ext G G1 ∧ Wf X.K M1 H1 G1 ∧ Reps X.K G1 xs vs ∧ (xs ++ dps).length = ns.length ∧ Q0 (.obj C ns (xs ++ dps)) M1) I ?_) fun us s1 ⟨vs, H1, I1, r, q⟩ => ⟨I1.kIn, ?_⟩) he hpl) hdb)⟩
  · exact ⟨env, M, G, _, E0, S, q, fun xs M1 vs H1 G1 e1 w1 r1 q1 => ⟨xs, M1, G1, e1, w1, r1, q1.1, q1.2⟩, LE⟩
  · obtain ⟨xs, M1, G1, e1, w1, r1, hl, q⟩ := q
    refine run_makeQ Mk1 F hr hb hd tk I1 r fun y dx ny nd ne => ⟨y, dx, vs ++ dvs, rfl, ?_, upd_same, rfl, ?_⟩
    · rw [← hl, (r1.append (hp G1)).length]
    · rw [upd_upd]
      have w2 := w1.newH (o := .own y) nd
      have n2 : upd H1 dx (.own y) y = none := by rw [upd_ne ne.symm]; exact ny
      exact L (.obj C ns (xs ++ dps)) M1 _ _ _ (e1.trans (Ext.new (w2.free n2))) (w2.newG n2) ⟨y, dx, vs ++ dvs, rfl, upd_same, Reps.mono (Ext.new (w2.free n2)) _ _ (r1.append (hp G1))⟩ q
end
end TQ

namespace TQ
open PySem PySem.Spec PyProof.Rows L2
theorem liftX_E {K : PySem.W.Frag} {W : WX} {G : Hp} {env : Sl} {σ : L2.St} {E0 : Value → Option PV → Sl → Mem → Prop} (e : EnvR K G env σ) (h : LiftX K G E0 W) : LiftE K G (fun c pl M' => E0 c pl env M') (WE W σ) :=
  fun c pl M' d H' G' e1 w x q => h c pl env M' d σ H' G' e1 ⟨e.mono e1, w⟩ x q
/-! ### targets -/
abbrev QTG := PV → Sl → Mem → (Sl → Mem → Prop) → Prop
def tieG (K : PySem.W.Frag) (g : QTG) : TG := fun v σ H Q => ∃ x env M G Q0, Rep K G x v ∧ Sim K env M G σ H ∧ g x env M Q0 ∧ LiftN K G Q0 Q
abbrev QPG (X : Cx) (tg : Expr) (g : QTG) : Prop := PG X tg (tieG X.K g)
theorem _root_.L2.PG.imp {X : Cx} {e : Expr} {t t' : TG} (h : PG X e t) (f : ∀ v σ H Q, t' v σ H Q → t v σ H Q) : PG X e t' := ⟨fun pins s σ H v u Q I r q => h.run pins s σ H v u Q I r (f v σ H Q q)⟩
def gNm (i : Nat) : QTG := fun x env M Q => Q (env.set i (some x)) M
section
variable {X : Cx} {W : WX} {pos : Pos}
theorem qg_name {i : Nat} {x : Str} (hN : X.N.Nodup) (hi : X.N[i]? = some x := by rfl) (hx : Loc X.env.scope x := by first | exact Or.inl rfl | exact Or.inr rfl) (hf : X.fn x = true ∨ X.env.scope.names.lookup x = some .local := by first | exact .inl rfl | exact .inr rfl | assumption) : QPG X (.Name x pos) (gNm i) :=
  (pg_name hN hi hx hf).imp fun v σ H Q ⟨x, env, M, G, Q0, r, S, q, L⟩ => L _ M _ H G (Ext.refl G) (S.set r) q
abbrev QTGs := List PV → Sl → Mem → (Sl → Mem → Prop) → Prop
def tieGs (K : PySem.W.Frag) (g : QTGs) : TGs := fun vs σ H Q => ∃ xs env M G Q0, Reps K G xs vs ∧ Sim K env M G σ H ∧ g xs env M Q0 ∧ LiftN K G Q0 Q
theorem _root_.L2.PGs.imp {X : Cx} {e : List Expr} {t t' : TGs} (h : PGs X e t) (f : ∀ v σ H Q, t' v σ H Q → t v σ H Q) : PGs X e t' := ⟨fun pins s σ H v u Q I r q => h.run pins s σ H v u Q I r (f v σ H Q q)⟩
abbrev QPGs (X : Cx) (ts : List Expr) (g : QTGs) : Prop := PGs X ts (tieGs X.K g)
def gsNil : QTGs := fun xs env M Q => match xs with
  | [] => Q env M
  | _ => False
def gsCons (g : QTG) (gs : QTGs) : QTGs := fun xs env M Q => match xs with
  | y :: ys => g y env M fun env' M' => gs ys env' M' Q
  | [] => False
theorem qgs_nil : QPGs X [] gsNil := pgs_nil.imp fun vs σ H Q ⟨xs, env, M, G, Q0, r, S, q, L⟩ => by
  unfold gsNil at q
  split at q
  · cases r
    exact ⟨rfl, L env M σ H G (Ext.refl G) S q⟩
  · exact q.elim
theorem qgs_cons {e : Expr} {es : List Expr} {g : QTG} {gs : QTGs} (h : QPG X e g) (k : QPGs X es gs) (hs : (assignEach (e :: es) X.env).map (·.2) = assign e X.env :: (assignEach es X.env).map (·.2) := by rfl) : QPGs X (e :: es) (gsCons g gs) :=
  (pgs_cons h k hs).imp fun vs σ H Q ⟨xs, env, M, G, Q0, r, S, q, L⟩ => by
    unfold gsCons at q
    split at q
    · rename_i y ys
      obtain ⟨v, ws, rfl, r1, r2⟩ := r
      refine ⟨v, ws, rfl, y, env, M, G, _, r1, S, q, fun env' M' σ' H' G' e1 S1 q1 => ?_⟩
      exact ⟨ys, env', M', G', Q0, Reps.mono e1 _ _ r2, S1, q1, L.mono e1⟩
    · exact q.elim
/-- (a, b, ..) = a tuple -/
def gTu (n : Nat) (gs : QTGs) : QTG := fun x env M Q => match x with
  | .tup xs => xs.length = n ∧ gs xs env M Q
  | _ => False
theorem qg_tup {es : List Expr} {k : Nat} {gs : QTGs} {n : Nat} (hc : X.calm = true) (h : QPGs X es gs) (hn : (assignEach es X.env).length = n := by rfl) (hst : (assignEach es X.env).findIdx? (·.1) = none := by rfl) : QPG X (.Tuple es k pos) (gTu n gs) :=
  (pg_tup hc h hn hst).imp fun v σ H Q ⟨x, env, M, G, Q0, r, S, q, L⟩ => by
    unfold gTu at q
    split at q
    · rename_i xs
      obtain ⟨hl, q⟩ := q
      obtain ⟨p, vs, rfl, h1, r1⟩ := r
      exact ⟨p, vs, rfl, ext_t S.wf.sub h1, by rw [← r1.length]; exact hl, xs, env, M, G, Q0, r1, S, q, L⟩
    · exact q.elim

/-! ### statements -/
def sNext : QS := fun D env M => D.nx env M
def sSeq (t u : QS) : QS := fun D env M => t { D with nx := u D } env M
theorem _root_.L2.PSs.imp' {st : List Stmt} {t t' : TS} (h : PSs X st t) (f : ∀ D σ H, t' D σ H → t D σ H) : PSs X st t' := h.imp f
theorem qss_nil : QPSs X W [] sNext := pss_nil.imp fun D σ H ⟨env, M, G, D0, S, q, L⟩ => L.nx env M σ H G (Ext.refl G) S q
theorem qss_cons {st : Stmt} {rest : List Stmt} {t u : QS} (h : QPS X W st t) (k : QPSs X W rest u) : QPSs X W (st :: rest) (sSeq t u) := (pss_cons h k).imp fun D σ H ⟨env, M, G, D0, S, q, L⟩ =>
  ⟨env, M, G, _, S, q, ⟨fun env' M' σ' H' G' e S1 q1 => ⟨env', M', G', D0, S1, q1, L.mono e⟩, L.rt, L.bk, L.ct, L.ex⟩⟩
theorem qss_one {st : Stmt} {t : QS} (h : QPS X W st t) : QPSs X W [st] t := pss_one h
theorem qs_pass : QPS X W (.Pass pos) sNext := ps_pass.imp fun D σ H ⟨env, M, G, D0, S, q, L⟩ => L.nx env M σ H G (Ext.refl G) S q
def sBreak : QS := fun D env M => D.bk env M
def sCont : QS := fun D env M => D.ct env M
theorem qs_break : QPS X W (.Break pos) sBreak := ps_break.imp fun D σ H ⟨env, M, G, D0, S, q, L⟩ => L.bk env M σ H G (Ext.refl G) S q
theorem qs_continue : QPS X W (.Continue pos) sCont := ps_continue.imp fun D σ H ⟨env, M, G, D0, S, q, L⟩ => L.ct env M σ H G (Ext.refl G) S q
/-- the wish of a statement, for its expressions -/
abbrev exE (D : QEnds) (env : Sl) : EK := fun c pl M => D.ex c pl env M
def sRet (t : QT) : QS := fun D env M => t env M D.rt (exE D env)
theorem qs_ret {e : Expr} {t : QT} (h : QE X W e t) : QPS X W (.Return (some e) pos) (sRet t) := (ps_ret h).imp fun D σ H ⟨env, M, G, D0, S, q, L⟩ => ⟨env, M, G, _, _, S, q, L.rt, liftX_E S.env L.ex⟩
def sDrop (t : QT) : QS := fun D env M => t env M (fun _ M1 => D.nx env M1) (exE D env)
theorem qs_expr {e : Expr} {t : QT} (h : QE X W e t) (hs : swapsWith e none pos.line X.env = pure false := by rfl) : QPS X W (.Expr e pos) (sDrop t) := (ps_expr h hs).imp fun D σ H ⟨env, M, G, D0, S, q, L⟩ =>
  ⟨env, M, G, _, _, S, q, fun x M' v H' G' e w r q1 => L.nx env M' σ H' G' e ⟨S.env.mono e, w⟩ q1, liftX_E S.env L.ex⟩
def sIf (c : QB) (t u : QS) : QS := fun D env M => c env M (fun b M1 => if b = true then t D env M1 else u D env M1) (exE D env)
theorem qs_if {c : Expr} {a b : List Stmt} {tc : QB} {t u : QS} (hc : QPT X W c tc) (ha : QPSs X W a t) (hb : QPSs X W b u) : QPS X W (.If c a b pos) (sIf tc t u) := (ps_if hc ha hb).imp fun D σ H ⟨env, M, G, D0, S, q, L⟩ => by
  refine ⟨env, M, G, _, _, S, q, fun b M1 H1 G1 e w q1 => ?_, liftX_E S.env L.ex⟩
  cases b with
  | true => exact ⟨env, M1, G1, D0, ⟨S.env.mono e, w⟩, q1, L.mono e⟩
  | false => exact ⟨env, M1, G1, D0, ⟨S.env.mono e, w⟩, q1, L.mono e⟩
def sAsg (t : QT) (g : QTG) : QS := fun D env M => t env M (fun x M1 => g x env M1 D.nx) (exE D env)
theorem tieAsg {t : QT} {g : QTG} {D : Ends} {σ : L2.St} {H : Hp} (h : tieS X.K W (sAsg t g) D σ H) : tAsg (tie X.K W t) (tieG X.K g) D σ H := by
  obtain ⟨env, M, G, D0, S, q, L⟩ := h
  refine ⟨env, M, G, _, _, S, q, fun x M1 v H1 G1 e w r q1 => ?_, liftX_E S.env L.ex⟩
  exact ⟨x, env, M1, G1, D0.nx, r, ⟨S.env.mono e, w⟩, q1, L.nx.mono e⟩
theorem qs_asg {tg e : Expr} {t : QT} {g : QTG} (he : QE X W e t) (hg : QPG X tg g) (hs : swapsWithSole [tg] e pos.line X.env = pure false := by rfl) (hw : swappedStores [tg] e X.env = pure none := by rfl)
    (h1 : (assignEach [tg] X.env).map (·.2) = [assign tg X.env] := by rfl) : QPS X W (.Assign [tg] e pos) (sAsg t g) := (ps_asg he hg hs hw h1).imp fun D σ H h => tieAsg h
theorem tieNm {t : TE} {i : Nat} {D : Ends} {σ : L2.St} {H : Hp} (h : tAsg t (tieG X.K (gNm i)) D σ H) (m : ∀ σ H (Q Q' : VK), (∀ v H, Q v H → Q' v H) → t σ H Q → t σ H Q') : tAsg t (gName i) D σ H := by
  refine m _ _ _ _ (fun v H q => ?_) h
  obtain ⟨x, env, M, G, Q0, r, S, q, L⟩ := q
  exact L _ M _ H G (Ext.refl G) (S.set r) q
theorem tie_mono {K : PySem.W.Frag} {t : QT} {σ : L2.St} {H : Hp} {Q Q' : VK} (k : ∀ v H, Q v H → Q' v H) (h : tie K W t σ H Q) : tie K W t σ H Q' := by
  obtain ⟨env, M, G, Q0, E0, S, q, L, LE⟩ := h
  exact ⟨env, M, G, Q0, E0, S, q, fun x M' v H' G' e w r q => k _ _ (L x M' v H' G' e w r q), LE⟩
theorem qs_set (i : Nat) {x : Str} {e : Expr} {t : QT} {pos' : Pos} (hN : X.N.Nodup) (he : QE X W e t) (hi : X.N[i]? = some x := by rfl) (hx : Loc X.env.scope x := by first | exact Or.inl rfl | exact Or.inr rfl) (hs : swapsWith e (some (.Name x pos')) pos.line X.env = pure false := by rfl)
    (hf : X.fn x = true ∨ X.env.scope.names.lookup x = some .local := by first | exact .inl rfl | exact .inr rfl | assumption) : QPS X W (.Assign [.Name x pos'] e pos) (sAsg t (gNm i)) :=
  (ps_set hN hi hx he hs hf).imp fun D σ H h => tieNm (tieAsg h) fun _ _ _ _ k z => tie_mono k z
/-- x op= e -/
def sAug (i : Nat) (t : QT) (f : F2) : QS := fun D env M => ∃ x, env[i]? = some (some x) ∧ t env M (fun y M1 => f x y M1 fun z M2 => D.nx (env.set i (some z)) M2) (exE D env)
theorem qs_aug (i : Nat) {x : Str} {e : Expr} {t : QT} {f : F2} {op : Operator} {pos' : Pos} (hN : X.N.Nodup) (ho : OpQ X (inplaceOp op) f) (he : QE X W e t) (hi : X.N[i]? = some x := by rfl) (hx : Loc X.env.scope x := by first | exact Or.inl rfl | exact Or.inr rfl)
    (hf : X.fn x = true ∨ X.env.scope.names.lookup x = some .local := by first | exact .inl rfl | exact .inr rfl | assumption) : QPS X W (.AugAssign (.Name x pos') op e pos) (sAug i t f) :=
  (ps_aug hN hi hx he ho hf).imp fun D σ H ⟨env, M, G, D0, S, ⟨x, hx, q⟩, L⟩ => by
    obtain ⟨v, h1, h2⟩ := S.env.get _ _ hx
    refine ⟨v, h1, env, M, G, _, _, S, q, fun y M1 u H1 G1 e1 w1 r1 q1 => ?_, liftX_E S.env L.ex⟩
    refine ⟨x, y, M1, G1, _, Rep.mono e1 _ _ h2, r1, w1, q1, fun z M2 zv H2 G2 e2 w2 r2 q2 => ?_⟩
    exact L.nx _ M2 _ H2 G2 (e1.trans e2) (Sim.set ⟨S.env.mono (e1.trans e2), w2⟩ r2) q2
theorem iop_mulA : OpR X (inplaceOp .Mult) (rI IntMulOk fun i j => .int (i * j)) := opI fun _ _ _ _ _ _ _ hc q => imul_int q hc
def iAdd : F2 := fun x y M Q => match x, y with
  | .int i, .int j => Q (.int (i + j)) M
  | .str a, .str b => a.length + b.length ≤ sizeLine ∧ Q (.str (a ++ b)) M
  | _, _ => False
theorem iq_add : OpQ X (inplaceOp .Add) iAdd := by
  intro pins s σ H a b v u Q I ra rb ⟨x, y, M, G, Q0, rx, ry, w, q, L⟩
  cases x <;> cases y <;> first
    | exact iop_add pins s σ H a b v u Q I ra rb ⟨_, _, rx, ry, give L w (x := .int _) rfl q⟩
    | exact iop_add_str pins s σ H a b v u Q I ra rb ⟨_, _, rx, ry, q.1, give L w (x := .str _) rfl q.2⟩
    | exact q.elim
theorem iq_sub : OpQ X (inplaceOp .Sub) bSub := opq_int0 iop_sub (e' := fun i j => .int (i - j)) (fun _ _ _ _ => rfl) fun x y M Q q => by
  cases x <;> cases y <;> first | exact q.elim | exact ⟨_, _, rfl, rfl, q⟩
def iMul : F2 := fun x y M Q => match x, y with
  | .int i, .int j => IntMulOk i j ∧ Q (.int (i * j)) M
  | _, _ => False
theorem iq_mul : OpQ X (inplaceOp .Mult) iMul := opq_int iop_mulA (e' := fun i j => .int (i * j)) (fun _ _ _ _ => rfl) fun x y M Q q => by
  cases x <;> cases y <;> first | exact q.elim | exact ⟨_, _, rfl, rfl, q⟩

/-! ### loops -/
def sWhile (c : QB) (b : QS) : QS := fun D env M => ∃ I : Nat → Sl → Mem → Prop, (∃ m, I m env M) ∧ ∀ m env M, I m env M → c env M (fun k M1 => if k = true then
    b { D with nx := fun env' M' => ∃ m', m' < m ∧ I m' env' M', bk := D.nx, ct := fun env' M' => ∃ m', m' < m ∧ I m' env' M' } env M1 else D.nx env M1) (exE D env)
theorem qs_while {c : Expr} {body : List Stmt} {tc : QB} {tb : QS} (po : PassesOwn (model X.prog X.w) X.A X.env X.xe) (hc : QPT X W c tc) (hb : QPSs X W body tb) : QPS X W (.While c body [] pos) (sWhile tc tb) := (ps_while po hc hb).imp fun D σ H ⟨env, M, G, D0, S, ⟨I, ⟨m, hm⟩, hI⟩, L⟩ => by
  refine ⟨fun m σ H => ∃ env M G1, Ext G G1 ∧ Sim X.K env M G1 σ H ∧ I m env M, ⟨m, env, M, G, Ext.refl G, S, hm⟩, fun m σ H ⟨env, M, G1, e1, S1, h1⟩ => ?_⟩
  refine ⟨env, M, G1, _, _, S1, hI m env M h1, fun b M2 H2 G2 e2 w2 q2 => ?_, liftX_E S1.env (L.ex.mono e1)⟩
  have S2 := S1.to e2 w2
  cases b with
  | false => exact L.nx env M2 σ H2 G2 (e1.trans e2) S2 q2
  | true =>
    rw [if_pos rfl] at q2
    refine ⟨fun σ' H' => ∃ m', m' < m ∧ ∃ env M G1, Ext G G1 ∧ Sim X.K env M G1 σ' H' ∧ I m' env M, fun σ' H' h => h, ?_⟩
    have nxt : LiftN X.K G2 (fun env' M' => ∃ m', m' < m ∧ I m' env' M') (fun σ' H' => ∃ m', m' < m ∧ ∃ env M G1, Ext G G1 ∧ Sim X.K env M G1 σ' H' ∧ I m' env M) := fun env' M' σ' H' G' e S' ⟨m', hm', q⟩ => ⟨m', hm', env', M', G', (e1.trans e2).trans e, S', q⟩
    exact ⟨env, M2, G2, _, S2, q2, ⟨nxt, L.rt.mono (e1.trans e2), L.nx.mono (e1.trans e2), nxt, L.ex.mono (e1.trans e2)⟩⟩
/-- for target in the items: what holds at the i-th turn -/
def forI (n : Nat) (at' : Nat → PV → Prop) (st : Mem → Prop) (g : QTG) (b : QS) : QS := fun D env M => ∃ I : Nat → Sl → Mem → Prop, I 0 env M ∧ (∀ i env M, i ≤ n → I i env M → st M) ∧
  (∀ i x env M, i < n → at' i x → I i env M → g x env M fun env' M' => b { D with nx := I (i + 1), bk := D.nx, ct := I (i + 1) } env' M') ∧ ∀ env M, I n env M → D.nx env M
def sForR1 (t : QA) (g : QTG) (b : QS) : QS := fun D env M => t env M (fun xs M1 => ∃ hi, xs = [.int hi] ∧ (-(2 ^ 62) ≤ hi ∧ hi < 2 ^ 62) ∧ forI hi.toNat (fun i x => x = .int i) (fun _ => True) g b D env M1) (exE D env)
def sForR2 (t : QA) (g : QTG) (b : QS) : QS := fun D env M => t env M (fun xs M1 => ∃ lo hi, xs = [.int lo, .int hi] ∧ (-(2 ^ 62) ≤ lo ∧ lo < 2 ^ 62 ∧ -(2 ^ 62) ≤ hi ∧ hi < 2 ^ 62) ∧
  forI (hi - lo).toNat (fun i x => x = .int (lo + i)) (fun _ => True) g b D env M1) (exE D env)
def sForL (t : QT) (g : QTG) (b : QS) : QS := fun D env M => t env M (fun x M1 => match x with
  | .lst xs => forI xs.length (fun i x => xs[i]? = some x) (fun _ => True) g b D env M1
  | .scr ns => forI ns.length (fun i x => ∃ n, ns[i]? = some n ∧ x = .int n) (fun _ => True) g b D env M1
  | .ref a => ∃ xs, M1 a = some (.lst xs) ∧ forI xs.length (fun i x => xs[i]? = some x) (fun M => M a = some (.lst xs)) g b D env M1
  | _ => False) (exE D env)
def sForT (t : QT) (g : QTG) (b : QS) : QS := fun D env M => t env M (fun x M1 => match x with
  | .tup xs => forI xs.length (fun i x => xs[i]? = some x) (fun _ => True) g b D env M1
  | _ => False) (exE D env)
/-- what a turn's invariant is, over the heaps -/
def PvQ (K : PySem.W.Frag) (G : Hp) (I : Nat → Sl → Mem → Prop) : Nat → L2.St → Hp → Prop := fun i σ H => ∃ env M G1, Ext G G1 ∧ Sim K env M G1 σ H ∧ I i env M
theorem turnQ {g : QTG} {b : QS} {G G1 : Hp} {D0 : QEnds} {D : Ends} {I : Nat → Sl → Mem → Prop} {i : Nat} {env : Sl} {M : Mem} {x : PV} {v : V} {σ : L2.St} {H : Hp} (L : LiftD X.K W G D0 D) (e1 : Ext G G1) (S : Sim X.K env M G1 σ H) (r : Rep X.K G1 x v)
    (q : g x env M fun env' M' => b { D0 with nx := I (i + 1), bk := D0.nx, ct := I (i + 1) } env' M') :
    tieG X.K g v σ H fun σ2 H2 => tieS X.K W b { nx := PvQ X.K G I (i + 1), rt := D.rt, bk := D.nx, ct := PvQ X.K G I (i + 1) } σ2 H2 := by
  refine ⟨x, env, M, G1, _, r, S, q, fun env' M' σ' H' G' e S' q' => ?_⟩
  have nxt : LiftN X.K G' (I (i + 1)) (PvQ X.K G I (i + 1)) := fun env2 M2 σ2 H2 G2 e2 S2 q2 => ⟨env2, M2, G2, (e1.trans e).trans e2, S2, q2⟩
  exact ⟨env', M', G', _, S', q', ⟨nxt, L.rt.mono (e1.trans e), L.nx.mono (e1.trans e), nxt, L.ex.mono (e1.trans e)⟩⟩
theorem qs_forR1 {tg a : Expr} {body : List Stmt} {t : QA} {g : QTG} {b : QS} {p pos' : Pos} (po : PassesOwn (model X.prog X.w) X.A X.env X.xe) (hc : X.calm = true) (hm : X.mg "range" = none) (ha : QPA X W [a] t) (hgt : QPG X tg g) (hb : QPSs X W body b) (hg : Gl X "range" := by rfl)
    (hst : starEach [a] X.env = [(false, eval a X.env)] := by rfl) (hfs : ∀ x, foldedSetIterable (.Call (.Name "range" p) [a] [] pos') X.env x = pure x := by intro _; rfl) : QPS X W (.For tg (.Call (.Name "range" p) [a] [] pos') body [] pos) (sForR1 t g b) :=
  (ps_for po hc (pi_range1 hg hm ha hst) hgt hb hfs).imp fun D σ H ⟨env, M, G, D0, S, q, L⟩ => by
    refine ⟨env, M, G, _, _, S, q, fun xs M1 vs H1 G1 e1 w1 r1 q1 => ?_, liftX_E S.env L.ex⟩
    obtain ⟨hi, rfl, ⟨b1, b2⟩, I, i0, _, hs, hd⟩ := q1
    obtain ⟨v, rfl, rv⟩ := reps1 r1
    cases rv
    refine ⟨hi, rfl, b1, b2, for_range (lo := 0) (n := hi.toNat) (PvQ X.K G I) ⟨env, M1, G1, e1, S.to e1 w1, i0⟩ (fun i σ H hi' ⟨env, M, G2, e2, S2, q2⟩ => ?_) (fun σ H ⟨env, M, G2, e2, S2, q2⟩ => L.nx env M σ H G2 e2 S2 (hd env M q2))⟩
    exact turnQ L e2 S2 (x := .int i) (by show V.int _ = V.int _; rw [Int.zero_add]) (hs i _ env M hi' rfl q2)
theorem qs_forR2 {tg a c : Expr} {body : List Stmt} {t : QA} {g : QTG} {b : QS} {p pos' : Pos} (po : PassesOwn (model X.prog X.w) X.A X.env X.xe) (hc : X.calm = true) (hm : X.mg "range" = none) (ha : QPA X W [a, c] t) (hgt : QPG X tg g) (hb : QPSs X W body b) (hg : Gl X "range" := by rfl)
    (hst : starEach [a, c] X.env = [(false, eval a X.env), (false, eval c X.env)] := by rfl) (hst2 : starEach [c] X.env = [(false, eval c X.env)] := by rfl) (hfs : ∀ x, foldedSetIterable (.Call (.Name "range" p) [a, c] [] pos') X.env x = pure x := by intro _; rfl) :
    QPS X W (.For tg (.Call (.Name "range" p) [a, c] [] pos') body [] pos) (sForR2 t g b) :=
  (ps_for po hc (pi_range2 hg hm ha hst hst2) hgt hb hfs).imp fun D σ H ⟨env, M, G, D0, S, q, L⟩ => by
    refine ⟨env, M, G, _, _, S, q, fun xs M1 vs H1 G1 e1 w1 r1 q1 => ?_, liftX_E S.env L.ex⟩
    obtain ⟨lo, hi, rfl, ⟨b1, b2, b3, b4⟩, I, i0, _, hs, hd⟩ := q1
    obtain ⟨v, u, rfl, rv, ru⟩ := reps2 r1
    cases rv; cases ru
    refine ⟨lo, hi, rfl, ⟨b1, b2, b3, b4⟩, for_range (lo := lo) (n := (hi - lo).toNat) (PvQ X.K G I) ⟨env, M1, G1, e1, S.to e1 w1, i0⟩ (fun i σ H hi' ⟨env, M, G2, e2, S2, q2⟩ => ?_) (fun σ H ⟨env, M, G2, e2, S2, q2⟩ => L.nx env M σ H G2 e2 S2 (hd env M q2))⟩
    exact turnQ L e2 S2 (x := .int (lo + i)) rfl (hs i _ env M hi' rfl q2)
theorem qs_forT {tg e : Expr} {body : List Stmt} {t : QT} {g : QTG} {b : QS} (po : PassesOwn (model X.prog X.w) X.A X.env X.xe) (hc : X.calm = true) (he : QE X W e t) (hgt : QPG X tg g) (hb : QPSs X W body b) (hfs : ∀ x, foldedSetIterable e X.env x = pure x := by intro _; rfl) :
    QPS X W (.For tg e body [] pos) (sForT t g b) :=
  (ps_for po hc (pi_tup he) hgt hb hfs).imp fun D σ H ⟨env, M, G, D0, S, q, L⟩ => by
    refine ⟨env, M, G, _, _, S, q, fun x M1 v H1 G1 e1 w1 r1 q1 => ?_, liftX_E S.env L.ex⟩
    dsimp only at q1
    split at q1
    · rename_i xs
      obtain ⟨a, vs, rfl, h1, r1⟩ := r1
      obtain ⟨I, i0, _, hs, hd⟩ := q1
      have hT := ext_t w1.sub h1
      refine ⟨a, rfl, ⟨_, hT⟩, for_tup (K := X.K) (a := a) (xs := vs) (PvQ X.K G1 I) ⟨env, M1, G1, Ext.refl _, S.to e1 w1, i0⟩ (fun i σ H _ ⟨env, M, G2, e2, S2, q2⟩ => ext_t S2.wf.sub (ext_t e2 h1)) (fun i v σ H hi' ⟨env, M, G2, e2, S2, q2⟩ => ?_)
        (fun σ H ⟨env, M, G2, e2, S2, q2⟩ => L.nx env M σ H G2 (e1.trans e2) S2 (hd env M (by rw [r1.length]; exact q2)))⟩
      obtain ⟨x, hx, rx⟩ := r1.getV hi'
      exact turnQ (L.mono e1) e2 S2 (Rep.mono e2 _ _ rx) (hs i _ env M (List.getElem?_eq_some_iff.mp hx).1 hx q2)
    · exact q1.elim
theorem qs_forL {tg e : Expr} {body : List Stmt} {t : QT} {g : QTG} {b : QS} (po : PassesOwn (model X.prog X.w) X.A X.env X.xe) (hc : X.calm = true) (he : QE X W e t) (hgt : QPG X tg g) (hb : QPSs X W body b) (hfs : ∀ x, foldedSetIterable e X.env x = pure x := by intro _; rfl) :
    QPS X W (.For tg e body [] pos) (sForL t g b) :=
  (ps_for po hc (pi_list he) hgt hb hfs).imp fun D σ H ⟨env, M, G, D0, S, q, L⟩ => by
    refine ⟨env, M, G, _, _, S, q, fun x M1 v H1 G1 e1 w1 r1 q1 => ?_, liftX_E S.env L.ex⟩
    dsimp only at q1
    split at q1
    · rename_i xs
      obtain ⟨a, vs, rfl, h1, r1⟩ := r1
      obtain ⟨I, i0, _, hs, hd⟩ := q1
      refine ⟨a, rfl, ⟨_, SqL.of (w1.sub _ _ h1)⟩, for_list (K := X.K) (a := a) (xs := vs) (PvQ X.K G1 I) ⟨env, M1, G1, Ext.refl _, S.to e1 w1, i0⟩ (fun i σ H _ ⟨env, M, G2, e2, S2, q2⟩ => SqL.of (S2.wf.sub _ _ (e2 _ _ h1))) (fun i v σ H hi' ⟨env, M, G2, e2, S2, q2⟩ => ?_)
        (fun σ H ⟨env, M, G2, e2, S2, q2⟩ => L.nx env M σ H G2 (e1.trans e2) S2 (hd env M (by rw [r1.length]; exact q2)))⟩
      obtain ⟨x, hx, rx⟩ := r1.getV hi'
      exact turnQ (L.mono e1) e2 S2 (Rep.mono e2 _ _ rx) (hs i _ env M (List.getElem?_eq_some_iff.mp hx).1 hx q2)
    · rename_i ns
      obtain ⟨a, rfl, h1⟩ := r1
      obtain ⟨I, i0, _, hs, hd⟩ := q1
      refine ⟨a, rfl, ⟨_, ext_l w1.sub h1⟩, for_list (K := X.K) (a := a) (xs := ns.map V.int) (PvQ X.K G1 I) ⟨env, M1, G1, Ext.refl _, S.to e1 w1, i0⟩ (fun i σ H _ ⟨env, M, G2, e2, S2, q2⟩ => ext_l S2.wf.sub (ext_l e2 h1)) (fun i v σ H hi' ⟨env, M, G2, e2, S2, q2⟩ => ?_)
        (fun σ H ⟨env, M, G2, e2, S2, q2⟩ => L.nx env M σ H G2 (e1.trans e2) S2 (hd env M (by rw [List.length_map] at q2; exact q2)))⟩
      rw [List.getElem?_map] at hi'
      cases hn : ns[i]? with
      | none => rw [hn] at hi'; cases hi'
      | some n =>
        rw [hn] at hi'
        cases hi'
        exact turnQ (L.mono e1) e2 S2 (x := .int n) rfl (hs i _ env M (List.getElem?_eq_some_iff.mp hn).1 ⟨n, hn, rfl⟩ q2)
    · rename_i a
      cases r1
      obtain ⟨xs, hm, I, i0, hst, hs, hd⟩ := q1
      obtain ⟨_, vs, h1, r1⟩ := w1.mem a _ hm
      refine ⟨a, rfl, ⟨_, SqL.of h1⟩, fun i m σ H => m = xs.length - i ∧ i ≤ xs.length ∧ PvQ X.K G1 I i σ H, ⟨xs.length, by omega, Nat.zero_le _, env, M1, G1, Ext.refl _, S.to e1 w1, i0⟩, fun i m σ H ⟨hm', hi, env, M, G2, e2, S2, q2⟩ => ?_⟩
      obtain ⟨_, ws, h2, r2⟩ := S2.wf.mem a _ (hst i env M hi q2)
      by_cases hn : i = xs.length
      · subst hn
        exact .inl ⟨⟨ws, SqL.of h2, by rw [r2.length]; exact Nat.le_refl _⟩, L.nx env M σ H G2 (e1.trans e2) S2 (hd env M q2)⟩
      · have hi2 : i < xs.length := by omega
        obtain ⟨v, hv, rv⟩ := r2.get (List.getElem?_eq_getElem hi2)
        refine .inr ⟨⟨ws, v, SqL.of h2, hv⟩, PvQ X.K G1 I (i + 1), fun σ' H' h => ⟨m - 1, by omega, by omega, by omega, h⟩, fun x H' hy => ?_⟩
        obtain ⟨rfl, hy⟩ := hy
        have e := hy ws (SqL.of h2)
        rw [hv] at e
        cases e
        exact turnQ (L.mono e1) e2 S2 rv (hs i _ env M hi2 (List.getElem?_eq_getElem hi2) q2)
    · exact q1.elim
end
end TQ

namespace TQ
open PySem PySem.Spec PyProof.Rows L2
/-! ### list comprehensions whose elements leave what is written as it is -/
theorem wipe_get (vs : List Nat) : ∀ {α : Type} (f : List (Option α) → List Nat → List (Option α)) (hf0 : ∀ σ, f σ [] = σ) (hf1 : ∀ σ v vs, f σ (v :: vs) = (f σ vs).set v none) (σ : List (Option α)) (i : Nat), (f σ vs)[i]? = if i ∈ vs then σ[i]?.map (fun _ => none) else σ[i]? := by
  intro α f hf0 hf1 σ i
  induction vs with
  | nil => rw [hf0]; simp
  | cons v vs ih =>
    rw [hf1, List.getElem?_set]
    by_cases h : v = i
    · subst h
      have hl : (f σ vs).length = σ.length := by
        clear ih
        induction vs with
        | nil => rw [hf0]
        | cons w vs ih => rw [hf1, List.length_set, ih]
      rw [if_pos rfl, if_pos List.mem_cons_self, hl]
      by_cases hv : v < σ.length
      · rw [if_pos hv, List.getElem?_eq_getElem hv]; rfl
      · rw [if_neg hv, List.getElem?_eq_none (by omega)]; rfl
    · rw [if_neg h, ih]
      by_cases hm : i ∈ vs
      · rw [if_pos hm, if_pos (List.mem_cons_of_mem _ hm)]
      · rw [if_neg hm, if_neg (fun z => by rcases List.mem_cons.mp z with e | e; exact h e.symm; exact hm e)]
def wipeQ (env : Sl) : List Nat → Sl
  | [] => env
  | v :: vs => (wipeQ env vs).set v none
theorem wipeV_get (σ : L2.St) (vs : List Nat) (i : Nat) : (wipe σ vs)[i]? = if i ∈ vs then σ[i]?.map (fun _ => none) else σ[i]? := wipe_get vs (f := wipe) (fun _ => rfl) (fun _ _ _ => rfl) σ i
theorem wipeQ_get (σ : Sl) (vs : List Nat) (i : Nat) : (wipeQ σ vs)[i]? = if i ∈ vs then σ[i]?.map (fun _ => none) else σ[i]? := wipe_get vs (f := wipeQ) (fun _ => rfl) (fun _ _ _ => rfl) σ i
theorem wipe_set {σ : L2.St} {vs : List Nat} {j : Nat} {x : Option V} (h : j ∈ vs) : wipe ((wipe σ vs).set j x) vs = wipe σ vs := by
  apply List.ext_getElem?
  intro i
  rw [wipeV_get, wipeV_get]
  by_cases hi : i ∈ vs
  · rw [if_pos hi, if_pos hi, List.getElem?_set]
    by_cases e : j = i
    · subst e
      rw [if_pos rfl]
      by_cases hl : j < σ.length
      · rw [if_pos (by rw [wipe_length]; exact hl), List.getElem?_eq_getElem hl]; rfl
      · rw [if_neg (by rw [wipe_length]; exact hl), List.getElem?_eq_none (by omega)] <;> rfl
    · rw [if_neg e, wipeV_get, if_pos hi]
      cases σ[i]? <;> rfl
  · rw [if_neg hi, if_neg hi, List.getElem?_set_ne (fun e => hi (by rw [← e]; exact h)), wipeV_get, if_neg hi]
theorem wipe_set2 {σ : L2.St} {vs : List Nat} {j k : Nat} {x y : Option V} (h : j ∈ vs) (h2 : k ∈ vs) : wipe (((wipe σ vs).set j x).set k y) vs = wipe σ vs := by
  apply List.ext_getElem?
  intro i
  rw [wipeV_get]
  by_cases hi : i ∈ vs
  · rw [if_pos hi]
    have e := congrArg (fun l => l[i]?) (wipe_set (σ := σ) (x := x) h)
    simp only [wipeV_get, if_pos hi] at e
    rw [wipeV_get, if_pos hi, ← e, List.getElem?_set]
    by_cases e2 : k = i
    · subst e2
      rw [if_pos rfl]
      by_cases hl : k < σ.length
      · rw [if_pos (by rw [List.length_set, wipe_length]; exact hl), List.getElem?_eq_getElem (by rw [List.length_set, wipe_length]; exact hl)]; rfl
      · rw [if_neg (by rw [List.length_set, wipe_length]; exact hl), List.getElem?_eq_none (by rw [List.length_set, wipe_length]; omega)] <;> rfl
    · rw [if_neg e2]
  · rw [if_neg hi, List.getElem?_set_ne (fun e => hi (by rw [← e]; exact h2)), List.getElem?_set_ne (fun e => hi (by rw [← e]; exact h))]
theorem EnvR.wipe {K : PySem.W.Frag} {G : Hp} {env : Sl} {σ : L2.St} (h : EnvR K G env σ) (vs : List Nat) : EnvR K G (wipeQ env vs) (L2.wipe σ vs) := by
  refine ⟨?_, fun i x e => ?_⟩
  · have q : ∀ (env : Sl) (vs : List Nat), (wipeQ env vs).length = env.length := fun env vs => by
      induction vs with
      | nil => rfl
      | cons v vs ih => show ((wipeQ env vs).set v none).length = _; rw [List.length_set, ih]
    rw [q, wipe_length, h.len]
  · rw [wipeQ_get] at e
    rw [wipeV_get]
    by_cases hi : i ∈ vs
    · rw [if_pos hi] at e
      cases z : env[i]? with
      | none => rw [z] at e; cases e
      | some o => rw [z] at e; cases e
    · rw [if_neg hi] at e ⊢
      exact h.get i x e
abbrev EF : EK := fun _ _ _ => False
abbrev W0 : WX := fun _ _ _ _ => False
theorem EF_lift {K : PySem.W.Frag} {G : Hp} {E : XK} : LiftE K G EF E := fun _ _ _ _ _ _ _ _ _ q => q.elim
theorem mset_mset {M : Mem} {a : Addr} {m n : MO} : mset (mset M a m) a n = mset M a n := by
  funext b; unfold mset; split <;> rfl
/-- what was written is written no more -/
theorem Wf.freeze {K : PySem.W.Frag} {M : Mem} {H G : Hp} {D : Addr} {xs : List PV} (w : Wf K (mset M D (.lst xs)) H G) (hn : M D = none) : ∃ vs, H D = some (.lst vs) ∧ Reps K G xs vs ∧ G D = none ∧ Wf K M H (upd G D (.lst vs)) := by
  obtain ⟨g0, vs, h1, r1⟩ := w.mem D _ mset_same
  refine ⟨vs, h1, r1, g0, fun a o e => ?_, fun a m e => ?_⟩
  · by_cases z : a = D
    · subst z; rw [upd_same] at e; cases e; exact h1
    · rw [upd_ne z] at e; exact w.sub a o e
  · have z : a ≠ D := by rintro rfl; rw [hn] at e; cases e
    obtain ⟨g1, q⟩ := w.mem a m (by rw [mset_ne z]; exact e)
    exact ⟨by rw [upd_ne z]; exact g1, q.mono (Ext.new g0) rfl⟩
def MExt (M M' : Mem) : Prop := ∀ a o, M a = some o → M' a = some o
theorem MExt.refl (M : Mem) : MExt M M := fun _ _ h => h
/-- one turn: the target's slots, the test, the element -/
def lcEl (tt : QB) (te : QT) (env2 : Sl) (M2 : Mem) (r : Option PV) : Prop := tt env2 M2 (fun b M4 => M4 = M2 ∧ if b = true then te env2 M2 (fun y M5 => M5 = M2 ∧ r = some y) EF else r = none) EF
def qYes : QB := fun _ M Q _ => Q true M
/-- the kit's test of a comprehension's block -/
def tieY (K : PySem.W.Frag) (tt : QB) : TT := fun σ H Q => tieB K W0 tt σ H Q
abbrev QPTs (X : Cx) (ifs : List Expr) (t : QB) : Prop := PTs X ifs (tieB X.K W0 t)
theorem qts_nil {X : Cx} : QPTs X [] qYes := ⟨fun pins s σ H Q I h => pts_nil.run pins s σ H Q I (by
  obtain ⟨env, M, G, Q0, E0, S, q, L, LE⟩ := h
  exact L true M H G (Ext.refl G) S.wf q)⟩
theorem qts_one {X : Cx} {c : Expr} {t : QB} (h : QPT X W0 c t) : QPTs X [c] t := pts_one h
section
variable {K : PySem.W.Frag}
/-- the accumulator's state ahead of turn i -/
def lcP (K : PySem.W.Frag) (G1 : Hp) (M1 : Mem) (D : Addr) (items : List PV) (r : PV → Option PV) (i : Nat) (H : Hp) : Prop := ∃ G', Ext G1 G' ∧ Wf K (mset M1 D (.lst ((items.take i).filterMap r))) H G'
theorem take_next {items : List PV} {r : PV → Option PV} {i : Nat} {x : PV} (h : items[i]? = some x) : (items.take (i + 1)).filterMap r = (items.take i).filterMap r ++ (match r x with
    | some y => [y]
    | none => []) := by
  rw [List.take_add_one, h, List.filterMap_append]
  congr 1
  simp only [Option.toList]
  cases hr : r x <;> simp [hr]
theorem lc_turnQ {G1 G' H : Hp} {M1 : Mem} {D : Addr} {items : List PV} {r : PV → Option PV} {i : Nat} {x : PV} {env2 : Sl} {σ2 : L2.St} {tt : QB} {te : QT} {Nx : Hp → Prop} (hn : items.length ≤ 100000) (hi : items[i]? = some x) (e1 : Ext G1 G') (hD : M1 D = none)
    (S : Sim K env2 (mset M1 D (.lst ((items.take i).filterMap r))) G' σ2 H) (q : ∀ M2, MExt M1 M2 → lcEl tt te env2 M2 (r x)) (hN : ∀ H', lcP K G1 M1 D items r (i + 1) H' → Nx H') :
    tieB K W0 tt σ2 H fun b H3 => if b = true then tie K W0 te σ2 H3 fun y H4 => ∃ acc, H4 D = some (.lst acc) ∧ acc.length < sizeLine ∧ Nx (upd H4 D (.lst (acc ++ [y]))) else Nx H3 := by
  have hx : MExt M1 (mset M1 D (.lst ((items.take i).filterMap r))) := fun a o e => by rw [mset_ne (by rintro rfl; rw [hD] at e; cases e)]; exact e
  have q := q _ hx
  refine ⟨env2, _, G', _, EF, S, q, fun b M4 H3 G3 e3 w3 q3 => ?_, EF_lift⟩
  obtain ⟨rfl, q3⟩ := q3
  cases b with
  | false =>
    rw [if_neg (by simp)] at q3
    rw [if_neg (by simp)]
    refine hN _ ⟨G3, e1.trans e3, ?_⟩
    rw [take_next hi, q3, List.append_nil]
    exact w3
  | true =>
    rw [if_pos rfl] at q3
    rw [if_pos rfl]
    refine ⟨env2, _, G3, _, EF, S.to e3 w3, q3, fun y M5 v H4 G4 e4 w4 ry q4 => ?_, EF_lift⟩
    obtain ⟨rfl, q4⟩ := q4
    obtain ⟨g0, acc, h1, r1⟩ := w4.mem D _ mset_same
    refine ⟨acc, h1, ?_, hN _ ⟨G4, (e1.trans e3).trans e4, ?_⟩⟩
    · rw [← r1.length, sizeLine_eq]
      have h1 := List.length_filterMap_le r (items.take i)
      have h2 := List.length_take_le i items
      have h3 := List.length_take_le' i items
      omega
    · have w5 := w4.put (p := D) (o := .lst (acc ++ [v])) (m := .lst ((items.take i).filterMap r ++ [y])) g0 (mok_lst (r1.append (Reps.one ry)))
      rw [mset_mset] at w5
      rw [take_next hi, q4]
      exact w5
end
def lcQ (items : List PV) (slots : PV → Option Sl) (tt : QB) (te : QT) (M1 : Mem) (Q : PK) : Prop := items.length ≤ 100000 ∧ ∃ r : PV → Option PV,
  (∀ x ∈ items, ∀ M2, MExt M1 M2 → ∃ env2, slots x = some env2 ∧ lcEl tt te env2 M2 (r x)) ∧ Q (.lst (items.filterMap r)) M1
def qLcL (j : Nat) (vs : List Nat) (tl : QT) (tt : QB) (te : QT) : QT := fun env M Q E => tl env M (fun x M1 => match sqA M1 x with
  | some items => lcQ items (fun y => some ((wipeQ env vs).set j (some y))) tt te M1 Q
  | none => False) E
def qLcR1 (j : Nat) (vs : List Nat) (ta : QA) (tt : QB) (te : QT) : QT := fun env M Q E => ta env M (fun xs M1 => ∃ hi, xs = [.int hi] ∧ (-(2 ^ 62) ≤ hi ∧ hi < 2 ^ 62) ∧
  lcQ ((List.range hi.toNat).map fun i => .int (i : Nat)) (fun y => some ((wipeQ env vs).set j (some y))) tt te M1 Q) E
def qLcT (j : Nat) (vs : List Nat) (tl : QT) (tt : QB) (te : QT) : QT := fun env M Q E => tl env M (fun x M1 => ∃ items, x = .tup items ∧ lcQ items (fun y => some ((wipeQ env vs).set j (some y))) tt te M1 Q) E
section
variable {X : Cx} {W : WX} {pos : Pos}
theorem lc_end {G1 H : Hp} {M1 : Mem} {D : Addr} {items : List PV} {r : PV → Option PV} {Q0 : PK} {Q : VK} (L : LiftV X.K G1 Q0 Q) (hD : M1 D = none) (p : lcP X.K G1 M1 D items r items.length H) (q : Q0 (.lst (items.filterMap r)) M1) : Q (.ref D) H := by
  obtain ⟨G', e1, w⟩ := p
  rw [List.take_length] at w
  obtain ⟨vs, h1, r1, g0, w2⟩ := w.freeze hD
  exact L (.lst (items.filterMap r)) M1 _ H _ (e1.trans (Ext.new g0)) w2 ⟨D, vs, rfl, upd_same, Reps.mono (Ext.new g0) _ _ r1⟩ q
theorem lcL_imp {own : List Nat} {j : Nat} {tl : QT} {tt : QB} {te : QT} {σ : L2.St} {H : Hp} {Q : VK} (hj : j ∈ own) (h : tie X.K W (qLcL j own tl tt te) σ H Q) : tLc (iList X.K (tie X.K W tl)) (gName j) (tieB X.K W0 tt) (tie X.K W0 te) own σ H Q := by
    obtain ⟨env, M, G, Q0, E0, S, q, L, LE⟩ := h
    refine ⟨env, M, G, _, E0, S, q, fun y M1 v H1 G1 e1 w1 r1 q1 => ?_, LE⟩
    dsimp only at q1
    cases hs : sqA M1 y with
    | none => rw [hs] at q1; exact q1.elim
    | some items =>
      rw [hs] at q1
      obtain ⟨hn, r, hr, q1⟩ := q1
      obtain ⟨p, vs, rfl, h1, rs⟩ := sqA_H hs r1 w1
      refine ⟨p, rfl, ⟨_, h1⟩, fun D hD => ?_⟩
      have hM := w1.freeM hD
      -- the items as they stand at any turn
      have src : ∀ {H' G' : Hp} {acc : List PV}, Ext G1 G' → Wf X.K (mset M1 D (.lst acc)) H' G' → ∃ ws, SqL X.K H' p ws ∧ Reps X.K G' items ws := fun {H' G' acc} e w => by
        have hs2 : sqA (mset M1 D (.lst acc)) y = some items := by
          cases y with
          | ref a =>
            have ha : M1 a = some (.lst items) := ml_some (show ml (M1 a) = some items from hs)
            show ml (mset M1 D (.lst acc) a) = some items
            rw [mset_ne (by rintro rfl; rw [hM] at ha; cases ha)]
            exact hs
          | _ => exact hs
        obtain ⟨p', ws, ep, h2, r2⟩ := sqA_H hs2 (Rep.mono e _ _ r1) w
        cases ep
        exact ⟨ws, h2, r2⟩
      refine ⟨fun i m H => m = items.length - i ∧ i ≤ items.length ∧ lcP X.K G1 M1 D items r i H, ⟨items.length, by omega, Nat.zero_le _, G1, Ext.refl _, ?_⟩, fun i m H ⟨hm, hi, hp⟩ => ?_⟩
      · exact w1.put (w1.free hD) (mok_lst Reps.nil)
      · obtain ⟨G', e', w'⟩ := _root_.id hp
        obtain ⟨ws, h2, r2⟩ := src e' w'
        by_cases hz : i = items.length
        · subst hz
          exact .inl ⟨⟨ws, h2, by rw [r2.length]; exact Nat.le_refl _⟩, lc_end (L.mono e1) hM hp q1⟩
        · have hlt : i < items.length := by omega
          have hx := List.getElem?_eq_getElem hlt
          obtain ⟨v, hv, rv⟩ := r2.get hx
          refine .inr ⟨⟨ws, v, h2, hv⟩, lcP X.K G1 M1 D items r (i + 1), fun H' h => ⟨m - 1, by omega, by omega, by omega, h⟩, fun z H' hy => ?_⟩
          obtain ⟨rfl, hy⟩ := hy
          have ez := hy ws h2
          rw [hv] at ez
          cases ez
          refine ⟨wipe_set hj, ?_⟩
          have S2 : Sim X.K ((wipeQ env own).set j (some items[i])) _ G' ((L2.wipe σ own).set j (some v)) H' := ⟨((S.env.mono (e1.trans e')).wipe _).set rv, w'⟩
          refine lc_turnQ hn hx e' hM S2 (fun M2 hM2 => ?_) (fun H' h => h)
          obtain ⟨env2, ee, q2⟩ := hr _ (List.getElem_mem hlt) M2 hM2
          cases ee
          exact q2
theorem lcT_imp {own : List Nat} {j : Nat} {tl : QT} {tt : QB} {te : QT} {σ : L2.St} {H : Hp} {Q : VK} (hj : j ∈ own) (h : tie X.K W (qLcT j own tl tt te) σ H Q) : tLc (iTup X.K (tie X.K W tl)) (gName j) (tieB X.K W0 tt) (tie X.K W0 te) own σ H Q := by
    obtain ⟨env, M, G, Q0, E0, S, q, L, LE⟩ := h
    refine ⟨env, M, G, _, E0, S, q, fun y M1 v H1 G1 e1 w1 r1 q1 => ?_, LE⟩
    obtain ⟨items, rfl, hn, r, hr, q1⟩ := q1
    obtain ⟨p, vs, rfl, h1, rs⟩ := r1
    refine ⟨p, rfl, ⟨_, ext_t w1.sub h1⟩, fun D hD => ?_⟩
    have hM := w1.freeM hD
    refine lc_tup (K := X.K) (a := p) (xs := vs) (lcP X.K G1 M1 D items r) ⟨G1, Ext.refl _, w1.put (w1.free hD) (mok_lst Reps.nil)⟩ (fun i H _ ⟨G', e', w'⟩ => ext_t w'.sub (ext_t e' h1)) (fun i v H hv ⟨G', e', w'⟩ => ?_)
      (fun H hp => lc_end (L.mono e1) hM (by rw [rs.length]; exact hp) q1)
    obtain ⟨z, hx, rz⟩ := rs.getV hv
    refine ⟨wipe_set hj, ?_⟩
    have S2 : Sim X.K ((wipeQ env own).set j (some z)) _ G' ((L2.wipe σ own).set j (some v)) H := ⟨((S.env.mono (e1.trans e')).wipe _).set (Rep.mono e' _ _ rz), w'⟩
    refine lc_turnQ hn hx e' hM S2 (fun M2 hM2 => ?_) (fun H' h => h)
    obtain ⟨env2, ee, q2⟩ := hr _ (List.mem_of_getElem? hx) M2 hM2
    cases ee
    exact q2
theorem lcR1_imp {own : List Nat} {j : Nat} {ta : QA} {tt : QB} {te : QT} {σ : L2.St} {H : Hp} {Q : VK} (hj : j ∈ own) (h : tie X.K W (qLcR1 j own ta tt te) σ H Q) : tLc (iRng1 (tieA X.K W ta)) (gName j) (tieB X.K W0 tt) (tie X.K W0 te) own σ H Q := by
    obtain ⟨env, M, G, Q0, E0, S, q, L, LE⟩ := h
    refine ⟨env, M, G, _, E0, S, q, fun xs M1 vs H1 G1 e1 w1 r1 q1 => ?_, LE⟩
    obtain ⟨hi, rfl, ⟨b1, b2⟩, hn, r, hr, q1⟩ := q1
    obtain ⟨v, rfl, rv⟩ := reps1 r1
    cases rv
    refine ⟨hi, rfl, b1, b2, fun D hD => ?_⟩
    have hM := w1.freeM hD
    have hlen : ((List.range hi.toNat).map fun i => PV.int (i : Nat)).length = hi.toNat := by simp
    refine lc_range (lo := 0) (n := hi.toNat) (lcP X.K G1 M1 D ((List.range hi.toNat).map fun i => PV.int (i : Nat)) r) ⟨G1, Ext.refl _, w1.put (w1.free hD) (mok_lst Reps.nil)⟩ (fun i H hlt ⟨G', e', w'⟩ => ?_)
      (fun H hp => lc_end (L.mono e1) hM (by rw [hlen]; exact hp) q1)
    have hx : ((List.range hi.toNat).map fun i => PV.int (i : Nat))[i]? = some (.int (i : Nat)) := by
      rw [List.getElem?_map, List.getElem?_range hlt]; rfl
    refine ⟨wipe_set hj, ?_⟩
    have S2 : Sim X.K ((wipeQ env own).set j (some (.int (i : Nat)))) _ G' ((L2.wipe σ own).set j (some (.int (0 + (i : Int))))) H := ⟨((S.env.mono (e1.trans e')).wipe _).set (show V.int _ = V.int _ by rw [Int.zero_add]), w'⟩
    refine lc_turnQ hn hx e' hM S2 (fun M2 hM2 => ?_) (fun H' h => h)
    obtain ⟨env2, ee, q2⟩ := hr _ (List.mem_of_getElem? hx) M2 hM2
    cases ee
    exact q2
theorem qe_lcL {elt iter : Expr} {x : Str} {px : Pos} {ifs : List Expr} {scope : Scope} {own : List (Str × Nat)} {j : Nat} {tl : QT} {tt : QB} {te : QT} (hc : X.calm = true) (hN : X.N.Nodup) (hl : QE X W iter tl) (hj : j ∈ own.map (·.2))
    (ok : BlkOk X.N X.env.scope scope own) (hg : ∀ (s : Shared) (H : Hp) (C : Addr) (cl : List (Str × Addr)) (fp : List Addr), PG (X.blk s H scope (compEnvC scope cl C X.env) fp) (.Name x px) (gName j))
    (ht : ∀ (s : Shared) (H : Hp) (C : Addr) (cl : List (Str × Addr)) (fp : List Addr), QPTs (X.blk s H scope (compEnvC scope cl C X.env) fp) ifs tt)
    (he : ∀ (s : Shared) (H : Hp) (C : Addr) (cl : List (Str × Addr)) (fp : List Addr), QE (X.blk s H scope (compEnvC scope cl C X.env) fp) W0 elt te) (hfs : ∀ v, foldedSetIterable iter X.env v = pure v := by intro _; rfl) :
    QE X W (.ListComp elt [{ target := .Name x px, iter := iter, ifs := ifs, is_async := 0 }] scope pos) (qLcL j (own.map (·.2)) tl tt te) :=
  (pe_lc (tt := tieB X.K W0 tt) (te := tie X.K W0 te) hc hN (pi_list hl) ok hg ht he hfs).imp fun σ H Q h => lcL_imp hj h
theorem qs_lcL (i : Nat) {y : Str} {py spos : Pos} {elt iter : Expr} {x : Str} {px : Pos} {ifs : List Expr} {scope : Scope} {own : List (Str × Nat)} {j : Nat} {tl : QT} {tt : QB} {te : QT} (hc : X.calm = true) (hN : X.N.Nodup) (hl : QE X W iter tl) (hj : j ∈ own.map (·.2))
    (ok : BlkOk X.N X.env.scope scope own) (hg : ∀ (s : Shared) (H : Hp) (C : Addr) (cl : List (Str × Addr)) (fp : List Addr), PG (X.blk s H scope (compEnvC scope cl C X.env) fp) (.Name x px) (gName j))
    (ht : ∀ (s : Shared) (H : Hp) (C : Addr) (cl : List (Str × Addr)) (fp : List Addr), QPTs (X.blk s H scope (compEnvC scope cl C X.env) fp) ifs tt)
    (he : ∀ (s : Shared) (H : Hp) (C : Addr) (cl : List (Str × Addr)) (fp : List Addr), QE (X.blk s H scope (compEnvC scope cl C X.env) fp) W0 elt te) (hfs : ∀ v, foldedSetIterable iter X.env v = pure v := by intro _; rfl) (hlo : X.env.scope.names.lookup y = some .local := by rfl) (hi : X.N[i]? = some y := by rfl) (hsw : swapsWith (.ListComp elt [{ target := .Name x px, iter := iter, ifs := ifs, is_async := 0 }] scope pos) (some (.Name y py)) spos.line X.env = pure true := by exact sw_true rfl rfl rfl (by decide +kernel)) :
    QPS X W (.Assign [.Name y py] (.ListComp elt [{ target := .Name x px, iter := iter, ifs := ifs, is_async := 0 }] scope pos) spos) (sAsg (qLcL j (own.map (·.2)) tl tt te) (gNm i)) :=
  (ps_setLc (tt := tieB X.K W0 tt) (te := tie X.K W0 te) hc hN hi hlo hsw (pi_list hl) ok hg ht he hfs).imp fun D σ H h => lcL_imp hj (tieNm (tieAsg h) fun _ _ _ _ k z => tie_mono k z)
theorem qe_lcT {elt iter : Expr} {x : Str} {px : Pos} {ifs : List Expr} {scope : Scope} {own : List (Str × Nat)} {j : Nat} {tl : QT} {tt : QB} {te : QT} (hc : X.calm = true) (hN : X.N.Nodup) (hl : QE X W iter tl) (hj : j ∈ own.map (·.2))
    (ok : BlkOk X.N X.env.scope scope own) (hg : ∀ (s : Shared) (H : Hp) (C : Addr) (cl : List (Str × Addr)) (fp : List Addr), PG (X.blk s H scope (compEnvC scope cl C X.env) fp) (.Name x px) (gName j))
    (ht : ∀ (s : Shared) (H : Hp) (C : Addr) (cl : List (Str × Addr)) (fp : List Addr), QPTs (X.blk s H scope (compEnvC scope cl C X.env) fp) ifs tt)
    (he : ∀ (s : Shared) (H : Hp) (C : Addr) (cl : List (Str × Addr)) (fp : List Addr), QE (X.blk s H scope (compEnvC scope cl C X.env) fp) W0 elt te) (hfs : ∀ v, foldedSetIterable iter X.env v = pure v := by intro _; rfl) :
    QE X W (.ListComp elt [{ target := .Name x px, iter := iter, ifs := ifs, is_async := 0 }] scope pos) (qLcT j (own.map (·.2)) tl tt te) :=
  (pe_lc (tt := tieB X.K W0 tt) (te := tie X.K W0 te) hc hN (pi_tup hl) ok hg ht he hfs).imp fun σ H Q h => lcT_imp hj h
theorem qs_lcT (i : Nat) {y : Str} {py spos : Pos} {elt iter : Expr} {x : Str} {px : Pos} {ifs : List Expr} {scope : Scope} {own : List (Str × Nat)} {j : Nat} {tl : QT} {tt : QB} {te : QT} (hc : X.calm = true) (hN : X.N.Nodup) (hl : QE X W iter tl) (hj : j ∈ own.map (·.2))
    (ok : BlkOk X.N X.env.scope scope own) (hg : ∀ (s : Shared) (H : Hp) (C : Addr) (cl : List (Str × Addr)) (fp : List Addr), PG (X.blk s H scope (compEnvC scope cl C X.env) fp) (.Name x px) (gName j))
    (ht : ∀ (s : Shared) (H : Hp) (C : Addr) (cl : List (Str × Addr)) (fp : List Addr), QPTs (X.blk s H scope (compEnvC scope cl C X.env) fp) ifs tt)
    (he : ∀ (s : Shared) (H : Hp) (C : Addr) (cl : List (Str × Addr)) (fp : List Addr), QE (X.blk s H scope (compEnvC scope cl C X.env) fp) W0 elt te) (hfs : ∀ v, foldedSetIterable iter X.env v = pure v := by intro _; rfl) (hlo : X.env.scope.names.lookup y = some .local := by rfl) (hi : X.N[i]? = some y := by rfl) (hsw : swapsWith (.ListComp elt [{ target := .Name x px, iter := iter, ifs := ifs, is_async := 0 }] scope pos) (some (.Name y py)) spos.line X.env = pure true := by exact sw_true rfl rfl rfl (by decide +kernel)) :
    QPS X W (.Assign [.Name y py] (.ListComp elt [{ target := .Name x px, iter := iter, ifs := ifs, is_async := 0 }] scope pos) spos) (sAsg (qLcT j (own.map (·.2)) tl tt te) (gNm i)) :=
  (ps_setLc (tt := tieB X.K W0 tt) (te := tie X.K W0 te) hc hN hi hlo hsw (pi_tup hl) ok hg ht he hfs).imp fun D σ H h => lcT_imp hj (tieNm (tieAsg h) fun _ _ _ _ k z => tie_mono k z)
theorem qe_lcR1 {elt a : Expr} {x : Str} {px p pos' : Pos} {ifs : List Expr} {scope : Scope} {own : List (Str × Nat)} {j : Nat} {ta : QA} {tt : QB} {te : QT} (hc : X.calm = true) (hN : X.N.Nodup) (hm : X.mg "range" = none) (hl : QPA X W [a] ta) (hj : j ∈ own.map (·.2))
    (ok : BlkOk X.N X.env.scope scope own) (hg : ∀ (s : Shared) (H : Hp) (C : Addr) (cl : List (Str × Addr)) (fp : List Addr), PG (X.blk s H scope (compEnvC scope cl C X.env) fp) (.Name x px) (gName j))
    (ht : ∀ (s : Shared) (H : Hp) (C : Addr) (cl : List (Str × Addr)) (fp : List Addr), QPTs (X.blk s H scope (compEnvC scope cl C X.env) fp) ifs tt)
    (he : ∀ (s : Shared) (H : Hp) (C : Addr) (cl : List (Str × Addr)) (fp : List Addr), QE (X.blk s H scope (compEnvC scope cl C X.env) fp) W0 elt te) (hgr : Gl X "range" := by rfl)
    (hst : starEach [a] X.env = [(false, eval a X.env)] := by rfl) (hfs : ∀ v, foldedSetIterable (.Call (.Name "range" p) [a] [] pos') X.env v = pure v := by intro _; rfl) :
    QE X W (.ListComp elt [{ target := .Name x px, iter := .Call (.Name "range" p) [a] [] pos', ifs := ifs, is_async := 0 }] scope pos) (qLcR1 j (own.map (·.2)) ta tt te) :=
  (pe_lc (tt := tieB X.K W0 tt) (te := tie X.K W0 te) hc hN (pi_range1 hgr hm hl hst) ok hg ht he hfs).imp fun σ H Q h => lcR1_imp hj h
theorem qs_lcR1 (i : Nat) {y : Str} {py spos : Pos} {elt a : Expr} {x : Str} {px p pos' : Pos} {ifs : List Expr} {scope : Scope} {own : List (Str × Nat)} {j : Nat} {ta : QA} {tt : QB} {te : QT} (hc : X.calm = true) (hN : X.N.Nodup) (hm : X.mg "range" = none) (hl : QPA X W [a] ta) (hj : j ∈ own.map (·.2))
    (ok : BlkOk X.N X.env.scope scope own) (hg : ∀ (s : Shared) (H : Hp) (C : Addr) (cl : List (Str × Addr)) (fp : List Addr), PG (X.blk s H scope (compEnvC scope cl C X.env) fp) (.Name x px) (gName j))
    (ht : ∀ (s : Shared) (H : Hp) (C : Addr) (cl : List (Str × Addr)) (fp : List Addr), QPTs (X.blk s H scope (compEnvC scope cl C X.env) fp) ifs tt)
    (he : ∀ (s : Shared) (H : Hp) (C : Addr) (cl : List (Str × Addr)) (fp : List Addr), QE (X.blk s H scope (compEnvC scope cl C X.env) fp) W0 elt te) (hgr : Gl X "range" := by rfl)
    (hst : starEach [a] X.env = [(false, eval a X.env)] := by rfl) (hfs : ∀ v, foldedSetIterable (.Call (.Name "range" p) [a] [] pos') X.env v = pure v := by intro _; rfl) (hlo : X.env.scope.names.lookup y = some .local := by rfl) (hi : X.N[i]? = some y := by rfl) (hsw : swapsWith (.ListComp elt [{ target := .Name x px, iter := .Call (.Name "range" p) [a] [] pos', ifs := ifs, is_async := 0 }] scope pos) (some (.Name y py)) spos.line X.env = pure true := by exact sw_true rfl rfl rfl (by decide +kernel)) :
    QPS X W (.Assign [.Name y py] (.ListComp elt [{ target := .Name x px, iter := .Call (.Name "range" p) [a] [] pos', ifs := ifs, is_async := 0 }] scope pos) spos) (sAsg (qLcR1 j (own.map (·.2)) ta tt te) (gNm i)) :=
  (ps_setLc (tt := tieB X.K W0 tt) (te := tie X.K W0 te) hc hN hi hlo hsw (pi_range1 hgr hm hl hst) ok hg ht he hfs).imp fun D σ H h => lcR1_imp hj (tieNm (tieAsg h) fun _ _ _ _ k z => tie_mono k z)
end
end TQ

namespace TQ
open PySem PySem.Spec PyProof.Rows L2
section
variable {X : Cx} {W : WX} {pos : Pos}
/-! ### truth of ints and texts, chains -/
def trP (M : Mem) : PV → Option Bool
  | .non => some false
  | .bl b => some b
  | .int i => some (i != 0)
  | .tup xs => some (!xs.isEmpty)
  | x => (sqA M x).map fun xs => !xs.isEmpty
theorem trP_V {K : PySem.W.Frag} {G H : Hp} {M : Mem} {x : PV} {v : V} {b : Bool} (h : trP M x = some b) (r : Rep K G x v) (w : Wf K M H G) : TruV K v H b := by
  have emp : ∀ {xs : List PV} {vs : List V}, Reps K G xs vs → (!xs.isEmpty) = !vs.isEmpty := fun {xs vs} r => by
    cases xs with
    | nil => cases r; rfl
    | cons x xs => obtain ⟨v, ws, rfl, _⟩ := r; rfl
  have seq : ∀ {x : PV}, (sqA M x).map (fun xs => !xs.isEmpty) = some b → Rep K G x v → TruV K v H b := fun {x} h r => by
    cases hs : sqA M x with
    | none => rw [hs] at h; cases h
    | some xs =>
      rw [hs] at h
      cases h
      obtain ⟨p, vs, rfl, h1, r1⟩ := sqA_H hs r w
      exact .inl ⟨vs, h1, emp r1⟩
  cases x with
  | non => cases r; cases h; rfl
  | bl b => cases r; cases h; rfl
  | int b => cases r; cases h; rfl
  | tup xs =>
    cases h
    obtain ⟨p, vs, rfl, h1, r1⟩ := r
    exact .inr (.inl ⟨vs, ext_t w.sub h1, emp r1⟩)
  | _ => exact seq (by exact h) r
def qOrT (ta tb : QT) : QT := fun env M Q E => ta env M (fun x M1 => ∃ k, trP M1 x = some k ∧ if k = true then Q x M1 else tb env M1 Q E) E
theorem qe_orT {a b : Expr} {rest : List Expr} {t u : QT} (h : QE X W a t) (k : QE X W (.BoolOp .Or (b :: rest) pos) u) : QE X W (.BoolOp .Or (a :: b :: rest) pos) (qOrT t u) :=
  (pe_orT h k).imp fun σ H Q ⟨env, M, G, Q0, E0, S, q, L, LE⟩ => by
    refine ⟨env, M, G, _, E0, S, q, fun x M1 v H1 G1 e1 w1 r1 q1 => ?_, LE⟩
    obtain ⟨c, hc, q1⟩ := q1
    refine ⟨c, trP_V hc r1 w1, ?_⟩
    cases c with
    | true => exact L x M1 v H1 G1 e1 w1 r1 q1
    | false => exact ⟨env, M1, G1, Q0, E0, S.to e1 w1, q1, L.mono e1, LE.mono e1⟩
def qTru (t : QT) : QB := fun env M Q E => t env M (fun x M1 => ∃ b, trP M1 x = some b ∧ Q b M1) E
theorem qt_tru {e : Expr} {t : QT} (h : QE X W e t) (he : ∀ whole, isTrue e X.env whole = (do let v ← whole; standAt e.pos; holding [v] (truthy v)) := by intro _; rfl) : QPT X W e (qTru t) :=
  (pt_truth h he).imp fun σ H Q ⟨env, M, G, Q0, E0, S, q, L, LE⟩ => by
    refine ⟨env, M, G, _, E0, S, q, fun x M1 v H1 G1 e1 w1 r1 q1 => ?_, LE⟩
    obtain ⟨b, hb, q1⟩ := q1
    exact ⟨b, trP_V hb r1 w1, L b M1 H1 G1 e1 w1 q1⟩
def qChain (f f' : F2) (ta tb tc : QT) : QT := fun env M Q E => ta env M (fun x M1 => tb env M1 (fun y M2 => f x y M2 fun z M3 => ∃ k, z = .bl k ∧ if k = true then tc env M3 (fun u M4 => f' y u M4 Q) E else Q (.bl false) M3) E) E
theorem tieChain {f f' : F2} {ta tb tc : QT} {σ : L2.St} {H : Hp} {Q : VK} (h : tie X.K W (qChain f f' ta tb tc) σ H Q) :
    tChain (fun a b H Q => ∃ x y M G Q0, Rep X.K G x a ∧ Rep X.K G y b ∧ Wf X.K M H G ∧ f x y M Q0 ∧ LiftV X.K G Q0 Q) (fun a b H Q => ∃ x y M G Q0, Rep X.K G x a ∧ Rep X.K G y b ∧ Wf X.K M H G ∧ f' x y M Q0 ∧ LiftV X.K G Q0 Q) (tie X.K W ta) (tie X.K W tb) (tie X.K W tc) σ H Q := by
  obtain ⟨env, M, G, Q0, E0, S, q, L, LE⟩ := h
  refine ⟨env, M, G, _, E0, S, q, fun x M1 v H1 G1 e1 w1 r1 q1 => ?_, LE⟩
  refine ⟨env, M1, G1, _, E0, S.to e1 w1, q1, fun y M2 u H2 G2 e2 w2 r2 q2 => ?_, LE.mono e1⟩
  refine ⟨x, y, M2, G2, _, Rep.mono e2 _ _ r1, r2, w2, q2, fun z M3 zv H3 G3 e3 w3 r3 q3 => ?_⟩
  obtain ⟨k, rfl, q3⟩ := q3
  refine ⟨k, r3, ?_⟩
  cases k with
  | true =>
    refine ⟨env, M3, G3, _, E0, S.to ((e1.trans e2).trans e3) w3, q3, fun c M4 cv H4 G4 e4 w4 r4 q4 => ?_, LE.mono ((e1.trans e2).trans e3)⟩
    exact ⟨y, c, M4, G4, Q0, Rep.mono (e3.trans e4) _ _ r2, r4, w4, q4, L.mono (((e1.trans e2).trans e3).trans e4)⟩
  | false => exact L (.bl false) M3 _ H3 G3 ((e1.trans e2).trans e3) w3 rfl q3
theorem qe_chain {op op' : CmpOp} {a b c : Expr} {f f' : F2} {ta tb tc : QT} (ho : OpQ X (compareOp op) f) (ho' : OpQ X (compareOp op') f') (ha : QE X W a ta) (hb : QE X W b tb) (hc : QE X W c tc) (hm : lastMarks [op, op'] [b, c] = false := by with_unfolding_all rfl) :
    QE X W (.Compare a [op, op'] [b, c] pos) (qChain f f' ta tb tc) := (pe_chain ho ho' ha hb hc hm).imp fun σ H Q h => tieChain h
theorem qt_chain {op op' : CmpOp} {a b c : Expr} {f f' : F2} {ta tb tc : QT} (ho : OpQ X (compareOp op) f) (ho' : OpQ X (compareOp op') f') (ha : QE X W a ta) (hb : QE X W b tb) (hc : QE X W c tc) (hm : lastMarks [op, op'] [b, c] = false := by with_unfolding_all rfl) :
    QPT X W (.Compare a [op, op'] [b, c] pos) (qTst (qChain f f' ta tb tc)) := (pt_chain ho ho' ha hb hc hm).imp fun σ H Q h => tieChain (tie_tst h)

/-! ### isinstance -/
structure ClsI (K : PySem.W.Frag) (C : Addr) : Prop where
  cl : Cls K C
  ha : PySem.W.findIn K (.ref C) "__class__" = some (some (.builtin "object.__class__"))
  hn : PySem.W.specialIn K (.builtin "object.__class__") "__get__" = some (some (.builtin "getset_descriptor.__get__"))
  htk : PySem.W.takesIn K (.builtin "object.__class__") = some true
  hm : PySem.W.mroIn K C (.type "object") = some true
/-- the class of a value -/
def tyP (M : Mem) : PV → Option Value
  | .non => some (.type "NoneType")
  | .bl _ => some (.type "bool")
  | .int _ => some (.type "int")
  | .str _ => some (.type "str")
  | .tup _ => some (.type "tuple")
  | .lst _ => some (.type "list")
  | .scr _ => some (.type "list")
  | .obj C _ _ => some (.ref C)
  | .ref a => match M a with
    | some (.lst _) => some (.type "list")
    | some (.dic _ _) => some (.type "dict")
    | some (.ins C _ _) => some (.ref C)
    | none => none
  | .ty _ => none
def tyC (K : PySem.W.Frag) : Value → Prop
  | .ref C => ClsI K C
  | _ => True
def clsP : PV → Option Value
  | .ty n => some (.type n)
  | .ref C => some (.ref C)
  | _ => none
theorem tyP_X {K : PySem.W.Frag} {G H : Hp} {M : Mem} {x : PV} {v : V} {t : Value} (h : tyP M x = some t) (c : tyC K t) (r : Rep K G x v) (w : Wf K M H G) : TyX K H v t := by
  have tupX : ∀ {a : Addr} {vs : List V}, SqT K H a vs → TyX K H (.ref a) (.type "tuple") := fun {a vs} h => by
    rcases h with (h | ⟨o, h⟩) | ⟨o, its, n, h1, h2, _⟩
    · exact .base (.tup h)
    · exact .fTuple h
    · exact .kTuple h1 h2
  have lstX : ∀ {a : Addr} {vs : List V}, SqL K H a vs → TyX K H (.ref a) (.type "list") := fun {a vs} h => by
    rcases h with (h | ⟨o, h⟩) | ⟨o, its, n, h1, h2, _⟩
    · exact .base (.lst h)
    · exact .base (.frz h)
    · exact .kList h1 h2
  cases x with
  | non => cases r; cases h; exact .base .non
  | bl b => cases r; cases h; exact .base (.bl _)
  | int b => cases r; cases h; exact .base (.int _)
  | str b => cases r; cases h; exact .base (.str _)
  | tup xs => cases h; obtain ⟨p, vs, rfl, h1, _⟩ := r; exact tupX (ext_t w.sub h1)
  | lst xs => cases h; obtain ⟨p, vs, rfl, h1, _⟩ := r; exact lstX (SqL.of (w.sub _ _ h1))
  | scr xs => cases h; obtain ⟨p, rfl, h1⟩ := r; exact lstX (ext_l w.sub h1)
  | obj C ns xs =>
    cases h
    obtain ⟨p, dx, vs, rfl, h1, _⟩ := r
    exact .base (.ins (w.sub _ _ h1) c.cl c.ha c.hn c.htk c.hm)
  | ref a =>
    cases r
    replace h : (match M a with
      | some (.lst _) => some (Value.type "list")
      | some (.dic _ _) => some (.type "dict")
      | some (.ins C _ _) => some (.ref C)
      | none => none) = some t := h
    split at h
    · rename_i hm
      cases h
      obtain ⟨_, vs, h1, _⟩ := w.mem a _ hm
      exact lstX (SqL.of h1)
    · rename_i hm
      cases h
      obtain ⟨_, vs, h1, _⟩ := w.mem a _ hm
      exact .base (.dK h1)
    · rename_i hm
      cases h
      obtain ⟨_, dx, vs, h1, _⟩ := w.mem a _ hm
      exact .base (.ins h1 c.cl c.ha c.hn c.htk c.hm)
    · cases h
  | ty n => cases h
def cIsi (K : PySem.W.Frag) : FC := fun xs M Q => match xs with
  | [x, c] => ∃ t u b, tyP M x = some t ∧ tyC K t ∧ clsP c = some u ∧ PySem.W.kitOne K t u = some b ∧ Q (.bl b) M
  | _ => False
theorem isiP {K : PySem.W.Frag} {x c : PV} {M : Mem} {Q : PK} {t u : Value} {b : Bool} (h1 : tyP M x = some t) (h2 : tyC K t) (h3 : clsP c = some u) (h4 : PySem.W.kitOne K t u = some b) : cIsi K [x, c] M Q = Q (.bl b) M := propext
  ⟨fun ⟨_, _, _, g1, _, g3, g4, q⟩ => by rw [h1] at g1; cases g1; rw [h3] at g3; cases g3; rw [h4] at g4; cases g4; exact q, fun q => ⟨_, _, _, h1, h2, h3, h4, q⟩⟩
theorem cq_isi : CallQ X (.builtin "isinstance") (cIsi X.K) := by
  intro pins s σ H vs us Q I r ⟨xs, M, G, Q0, rx, w, q, L⟩
  unfold cIsi at q
  split at q
  · obtain ⟨v, u, rfl, r1, r2⟩ := reps2 rx
    obtain ⟨t, k, b, h1, h2, h3, h4, q⟩ := q
    rename_i x c
    have hk : ClsV u k := by
      cases c with
      | ty n => cases h3; cases r2; exact .ty _
      | ref C => cases h3; cases r2; exact .own _
      | _ => cases h3
    exact call_isi pins s σ H _ us Q I r ⟨v, u, t, k, b, rfl, hk, tyP_X h1 h2 r1 w, h4, give L w (x := .bl _) rfl q⟩
  · exact q.elim

theorem cq_isiK {K : PySem.W.Frag} (h : X.K = K) : CallQ X (.builtin "isinstance") (cIsi K) := by
  subst h; exact cq_isi
theorem qe_fldK {K : PySem.W.Frag} {f : Str} {e : Expr} {t : QT} (h : X.K = K) (he : QE X W e t) (hb : attributeBase e f X.env (eval e X.env) = eval e X.env := by rfl) : QE X W (.Attribute e f pos) (qFld K f t) := by
  subst h; exact qe_fld he hb
/-! ### lists that are written -/
def qApp (to te : QT) : QT := fun env M Q E => to env M (fun x M1 => ∃ a ys, x = .ref a ∧ M1 a = some (.lst ys) ∧ te env M1 (fun y M2 => ∃ zs, M2 a = some (.lst zs) ∧ zs.length < sizeLine ∧ Q .non (mset M2 a (.lst (zs ++ [y])))) E) E
theorem qe_app {o e : Expr} {to te : QT} {apos : Pos} (ho : QE X W o to) (he : QE X W e te) (hb : attributeBase o "append" X.env (eval o X.env) = eval o X.env := by rfl)
    (h2 : (((backTo pos (starEach [e] X.env)).all fun x => !x.fst) && (backToKw pos (keywordEach [] X.env)).all fun x => x.fst.isSome) = true := by rfl) (h3 : (apos.endLine == pos.line) = true := by rfl)
    (h4 : starEach [e] X.env = (false, eval e X.env) :: starEach [] X.env := by rfl) (h5 : (backTo pos (starEach [] X.env)).any (·.1) = false := by rfl) : QE X W (.Call (.Attribute o "append" apos) [e] [] pos) (qApp to te) :=
  (pe_bm PySem.F.plainAttrs_list PySem.F.slot_list_append PySem.F.type_list_append mt_append ho (pa_cons he pa_nil h4) hb (by rw [Bool.and_eq_true]; exact ⟨h2, rfl⟩) h3 h4 h5).imp fun σ H Q ⟨env, M, G, Q0, E0, S, q, L, LE⟩ => by
    refine ⟨env, M, G, _, E0, S, q, fun x M1 v H1 G1 e1 w1 r1 q1 => ?_, LE⟩
    obtain ⟨a, ys, rfl, hm, q1⟩ := q1
    cases r1
    obtain ⟨_, vs, h1, _⟩ := w1.mem a _ hm
    refine ⟨.inl ⟨rfl, _, SqL.of h1⟩, env, M1, G1, _, E0, S.to e1 w1, q1, fun y M2 u H2 G2 e2 w2 r2 q2 => ?_, LE.mono e1⟩
    obtain ⟨zs, hm2, hz, q2⟩ := q2
    obtain ⟨g2, ws, h2, r3⟩ := w2.mem a _ hm2
    refine ⟨a, ws, u, rfl, rfl, h2, by rw [← r3.length]; exact hz, ?_⟩
    exact L .non _ .non _ G2 (e1.trans e2) (w2.put g2 (mok_lst (r3.append (Reps.one r2)))) rfl q2
/-! ### names of the module -/
theorem qe_glob {x : Str} {v : V} {y : PV} {u : Value} (hm : X.mg x = some u) (r : RelV v u) (hr : ∀ G, Rep X.K G y v) (hg : Gl X x := by rfl) (hd : (x == ("__debug__" : Str)) = false := by decide) : QE X W (.Name x pos) (qC y) :=
  (pe_glob hg hm r hd).imp fun σ H Q ⟨env, M, G, Q0, E0, S, q, L, _⟩ => L y M v H G (Ext.refl G) S.wf (hr G) q
/-- a built-in class, a class of the text -/
theorem qe_ty {x : Str} {n : String} (hm : X.mg x = none) (hg : Gl X x := by rfl) (hv : bootBuiltins x = some (.type n) := by decide +kernel) (hn : x ≠ "__name__" := by decide) (hd : (x == ("__debug__" : Str)) = false := by decide) : QE X W (.Name x pos) (qC (.ty n)) :=
  qe_c (pe_bltn (v := .ty n) hg hm hv rfl hn hd) fun _ _ => rfl
theorem qe_cls {x : Str} {C : Addr} (hm : X.mg x = some (.ref C)) (hg : Gl X x := by rfl) (hd : (x == ("__debug__" : Str)) = false := by decide) : QE X W (.Name x pos) (qC (.ref C)) := qe_glob hm (v := .ref C) rfl (fun _ => rfl) hg hd
theorem qe_gint {x : Str} {i : Int} {t : Tok} (hm : X.mg x = some (.int i t)) (hg : Gl X x := by rfl) (hd : (x == ("__debug__" : Str)) = false := by decide) : QE X W (.Name x pos) (qC (.int i)) := qe_glob hm (v := .int i) ⟨_, rfl⟩ (fun _ => rfl) hg hd
end
/-! ### the end -/
def sLaw : SpQ := fun xs M Q _ => ∃ ns, xs = [.scr ns] ∧ ns.length ≤ 63 ∧ ∀ M', Q (.bl true) M'
theorem law_end {K : PySem.W.Frag} {H : Hp} {a : Addr} {ns : List Int} (hl : ns.length ≤ 63) (h : SqL K H a (ns.map V.int)) : spQ K sLaw [.ref a] H (fun v _ => v = .bl true) fun _ _ _ => False :=
  ⟨[.scr ns], fun _ => none, H, fun x _ => x = .bl true, EF, Reps.one (x := .scr ns) ⟨a, rfl, h⟩, ⟨Ext.refl H, fun _ _ z => by cases z⟩, ⟨ns, rfl, hl, fun _ => rfl⟩, fun x M' v H' G' e w r q => by subst q; exact r, EF_lift⟩
theorem law_CX {P : Program} {w : World} (H : Hp) (s : Shared) (e : Value) (s' : Shared) (h : L2.CX P w [] H s (fun _ _ _ => False) e s') : False := by
  obtain ⟨_, _, _, _, _, _, _, _, _, _, _, _, z⟩ := h
  exact z.elim
end TQ

namespace TQ
open PySem PySem.Spec PyProof.Rows L2
section
variable {X : Cx} {W : WX} {pos : Pos} {k n : Nat} {f C : Addr} {fd : FuncData} {ps ks : List Str} {sp : Sp} {x : Str} {p : Pos} {e : Expr} {es : List Expr} {kws : List Keyword}
theorem qe_makeD {t : QA} {dvs : List V} {dps : List PV} {ns : List Str} (Mk1 : Mk X.K C f) (F : FnOk X.prog X.w X.K X.mg X.base (L2.CX X.prog X.w) k f fd ps (spInit C ns)) (hr : Room (k + 1) X.A) (hm : X.mg x = some (.ref C)) (hb : ∃ ds, Vals dvs ds ∧ Binds X.K fd ps ds)
    (hp : ∀ G, Reps X.K G dps dvs) (tk : Takes X W) (ha : QPA X W (e :: es) t) (hg : Gl X x := by rfl)
    (hdb : (x == ("__debug__" : Str)) = false := by decide) (he : starEach (e :: es) X.env = (false, eval e X.env) :: starEach es X.env := by rfl) (hpl : (backTo pos (starEach es X.env)).any (·.1) = false := by rfl) :
    QE X W (.Call (.Name x p) (e :: es) [] pos) (qMake C ns dps t) := by
  obtain ⟨ds, hd, hb⟩ := hb
  exact qe_make Mk1 F hr hm hb hd hp tk ha hg hdb he hpl
/-! ### by keywords -/
abbrev QPK (X : Cx) (W : WX) (kws : List Keyword) (t : QA) : Prop := L2.PK X kws (tieA X.K W t)
theorem _root_.L2.PK.imp {X : Cx} {e : List Keyword} {t t' : TA} (h : L2.PK X e t) (f : ∀ σ H Q, t' σ H Q → t σ H Q) : L2.PK X e t' := ⟨fun pos pins s σ H Q I q => h.run pos pins s σ H Q I (f σ H Q q)⟩
theorem qk_nil : QPK X W [] qNil := pk_nil.imp fun σ H Q ⟨env, M, G, Q0, E0, S, q, L, LE⟩ => L [] M [] H G (Ext.refl G) S.wf Reps.nil q
theorem qk_cons {nm : Option Str} {kpos : Pos} {t : QT} {r : QA} (h : QE X W e t) (k : QPK X W kws r) : QPK X W (⟨nm, e, kpos⟩ :: kws) (qCons t r) :=
  (pk_cons h k).imp fun σ H Q ⟨env, M, G, Q0, E0, S, q, L, LE⟩ => by
    refine ⟨env, M, G, _, E0, S, q, fun x M1 v H1 G1 e1 w1 r1 q1 => ?_, LE⟩
    refine ⟨env, M1, G1, _, E0, S.to e1 w1, q1, fun xs M2 vs H2 G2 e2 w2 r2 q2 => ?_, LE.mono e1⟩
    exact L (x :: xs) M2 (v :: vs) H2 G2 (e1.trans e2) w2 (Reps.cons (Rep.mono e2 x v r1) r2) q2
theorem run_makeK {g : List Value → List Value → List Value} {gV : List V → List V → List V} {pins : List (Addr × Obj)} {σ : L2.St} {H : Hp} {sh : Shared} {Q : VK} {us ws : List Value} {vs zs : List V} (Mk1 : Mk X.K C f)
    (F : FnOk X.prog X.w X.K X.mg X.base (L2.CX X.prog X.w) k f fd ps sp) (hr : Room (k + 1) X.A) (hb : KBn X.K fd ps (n + 1) ks g gV) (tk : Takes X W) (I : Inv X pins σ H sh) (r : Vals vs us) (rz : Vals zs ws) (l1 : vs.length = n) (l2 : zs.length = ks.length)
    (h : ∀ y dx, H y = none → H dx = none → dx ≠ y → sp (gV (.ref y :: vs) zs) (upd (upd H dx (.own y)) y (.ins C dx [])) (fun v H2 => v = .non ∧ Q (.ref y) H2) (WE W σ)) :
    wpAny (model X.prog X.w) X.A (call (.ref C) us (ks.zip ws)) (EP X pins σ Q) X.xe sh := by
  have q0 := h (sh.heap.objs.size + 1) sh.heap.objs.size (I.hok.fresh (Nat.le_succ _)) (I.hok.fresh (Nat.le_refl _)) (Nat.ne_of_lt (Nat.lt_succ_self _))
  have J := Inv.made (C := C) I
  have r1 : Vals (V.ref (sh.heap.objs.size + 1) :: vs) (Value.ref (sh.heap.objs.size + 1) :: us) := .cons rfl r
  have e1 : (Value.ref (sh.heap.objs.size + 1) :: us).length = n + 1 := r1.length ▸ congrArg Nat.succ l1
  have e2 : ws.length = ks.length := rz.length ▸ l2
  refine wpAny_call (make_map (f := f) I.kIn Mk1.makes Mk1.init (beq_iff_eq.mp Mk1.fn) (codeAny_mono (F.run _ X.stack _ _ ⟨Value.ref (sh.heap.objs.size + 1) :: us, ks.zip ws⟩ _ _ _ _ (hr.make C us (ks.zip ws)) (J.env0.make C us (ks.zip ws))
    (hb.to _ (_ :: us) ws J.kIn e1 e2) (hb.rel r1 rz) q0) fun r s' hq => ?_))
  match r, hq with
  | .error e, hq => exact passAt tk σ pins _ _ e s' J hq
  | .ok (.ret u), hq =>
    obtain ⟨v, H', I3, rv, ev, q3⟩ := J.after hq
    subst ev
    exact ⟨rv, V.ref (sh.heap.objs.size + 1), H', I3, rfl, q3⟩
  | .ok .next, hq => exact hq.elim
  | .ok .brk, hq => exact hq.elim
  | .ok .cont, hq => exact hq.elim
/-- C(e, .., k = v): the keywords' values put by gP among the positional ones (defaults too) -/
def qMakeK (C : Addr) (ns : List Str) (n m : Nat) (gP : List PV → List PV → List PV) (t tk : QA) : QT := fun env M Q E => t env M (fun xs M1 => tk env M1 (fun zs M2 => xs.length = n ∧ zs.length = m ∧ (gP xs zs).length = ns.length ∧ Q (.obj C ns (gP xs zs)) M2) E) E
theorem qe_makeK {t tk : QA} {ns : List Str} {gP : List PV → List PV → List PV} {gv : List V → List V → List V} (Mk1 : Mk X.K C f) (F : FnOk X.prog X.w X.K X.mg X.base (L2.CX X.prog X.w) k f fd ps (spInit C ns)) (hr : Room (k + 1) X.A) (hm : X.mg x = some (.ref C))
    (hb : ∃ g, KBn X.K fd ps (n + 1) ks g fun vs zs => vs.take 1 ++ gv (vs.drop 1) zs) (hp : ∀ G xs zs vs us, Reps X.K G xs vs → Reps X.K G zs us → Reps X.K G (gP xs zs) (gv vs us)) (tk' : Takes X W) (ha : QPA X W (e :: es) t) (hkw : QPK X W kws tk) (hg : Gl X x := by rfl)
    (hall : (backToKw pos (keywordEach kws X.env)).all (·.1.isSome) = true := by rfl) (hks : (backToKw pos (keywordEach kws X.env)).filterMap (·.1) = ks := by rfl)
    (hdb : (x == ("__debug__" : Str)) = false := by decide) (he : starEach (e :: es) X.env = (false, eval e X.env) :: starEach es X.env := by rfl)
    (hpl : ((backTo pos (starEach (e :: es) X.env)).any (·.1) || (backToKw pos (keywordEach kws X.env)).any (·.1.isNone)) = false := by rfl) :
    QE X W (.Call (.Name x p) (e :: es) kws pos) (qMakeK C ns n ks.length gP t tk) := by
  obtain ⟨g, hb⟩ := hb
  refine ⟨fun pins sh σ H Q I ⟨env, M, G, Q0, E0, S, q, L, LE⟩ => wpAny_Call_Name_kw (ld_glob I hg hm (PySem.W.callWith_KW (h₀ := X.base) I.ok.mod.kin Mk1.kp hall (thn (ha.run pos pins sh σ H
    (fun vs H1 => ∃ xs M1 G1, Ext G G1 ∧ Wf X.K M1 H1 G1 ∧ Reps X.K G1 xs vs ∧ tk env M1 (fun zs M2 => xs.length = n ∧ zs.length = ks.length ∧ (gP xs zs).length = ns.length ∧ Q0 (.obj C ns (gP xs zs)) M2) E0) I ?_) fun us s1 ⟨vs, H1, I1, r, q⟩ => ?_) hpl he) hdb)⟩
  · exact ⟨env, M, G, _, E0, S, q, fun xs M1 vs H1 G1 e1 w1 r1 q1 => ⟨xs, M1, G1, e1, w1, r1, q1⟩, LE⟩
  · obtain ⟨xs, M1, G1, e1, w1, r1, q⟩ := q
    refine thn (hkw.run pos pins s1 σ H1 (fun us H2 => ∃ zs M2 G2, Ext G1 G2 ∧ Wf X.K M2 H2 G2 ∧ Reps X.K G2 zs us ∧ xs.length = n ∧ zs.length = ks.length ∧ (gP xs zs).length = ns.length ∧ Q0 (.obj C ns (gP xs zs)) M2) I1 ?_) fun ws s2 ⟨zs', H2, I2, rz, q2⟩ => ⟨I2.kIn, ?_⟩
    · exact ⟨env, M1, G1, _, E0, S.to e1 w1, q, fun zs M2 us H2 G2 e2 w2 r2 q2 => ⟨zs, M2, G2, e2, w2, r2, q2⟩, LE.mono e1⟩
    · obtain ⟨zs, M2, G2, e2, w2, r2, l1, l2, l3, q2⟩ := q2
      rw [hks]
      refine run_makeK Mk1 F hr hb tk' I2 r rz (by rw [← r1.length]; exact l1) (by rw [← r2.length]; exact l2) fun y dx ny nd ne => ⟨y, dx, gv vs zs', rfl, ?_, upd_same, rfl, ?_⟩
      · rw [← l3, (hp G2 _ _ _ _ (Reps.mono e2 _ _ r1) r2).length]
      · rw [upd_upd]
        have w3 := w2.newH (o := .own y) nd
        have n2 : upd H2 dx (.own y) y = none := by rw [upd_ne ne.symm]; exact ny
        exact L (.obj C ns (gP xs zs)) M2 _ _ _ ((e1.trans e2).trans (Ext.new (w3.free n2))) (w3.newG n2) ⟨y, dx, gv vs zs', rfl, upd_same, Reps.mono (Ext.new (w3.free n2)) _ _ (hp G2 _ _ _ _ (Reps.mono e2 _ _ r1) r2)⟩ q2
end
/-! ### __init__ that stores -/
section
variable {X : Cx}
/-- self.f = a parameter, from the left -/
theorem putF_zip {ns : List Str} {us : List V} {f : Str} {v : V} (hf : f ∉ ns) (hl : ns.length = us.length) : putF f v (ns.zip us) = (ns ++ [f]).zip (us ++ [v]) := by
  induction ns generalizing us with
  | nil => cases us with
    | nil => rfl
    | cons _ _ => cases hl
  | cons n ns ih => cases us with
    | nil => cases hl
    | cons u us =>
      have h1 : ¬ n = f := fun e => hf (by rw [e]; exact List.mem_cons_self)
      have h2 : f ∉ ns := fun z => hf (List.mem_cons_of_mem _ z)
      rw [List.zip_cons_cons]
      show (if n = f then (n, v) :: ns.zip us else (n, u) :: putF f v (ns.zip us)) = _
      rw [if_neg h1, ih h2 (by simpa using hl)]
      rfl
end
/-! ### isinstance of own classes -/
theorem kit_own {K : PySem.W.Frag} {C D : Addr} {b : Bool} (hs : PySem.W.subIn K (.ref C) (.ref D) = some b) (hc : PySem.W.isClsIn K D = true) (ht : PySem.W.typeIn K (.ref D) = some (.type "type")) (hn : b = true ∨ C ≠ D) : PySem.W.kitOne K (.ref C) (.ref D) = some b := by
  unfold PySem.W.kitOne PySem.W.kitCls
  have hc' : (PySem.W.clsIn K D).isSome = true := hc
  by_cases e : C = D
  · subst e
    rcases hn with rfl | hn
    · rw [if_pos (by simp)]
    · exact absurd rfl hn
  · rw [if_neg (by simpa using e)]
    simp only [hc', ht, Bool.true_and, beq_self_eq_true, if_true]
    exact hs
theorem kit_ownT {K : PySem.W.Frag} {C : Addr} {T : String} {b : Bool} (hs : PySem.W.subIn K (.ref C) (.type T) = some b) (hm : PySem.W.kitMeta T = true := by decide +kernel) : PySem.W.kitOne K (.ref C) (.type T) = some b := by
  unfold PySem.W.kitOne PySem.W.kitCls
  rw [if_neg (by intro h; cases (beq_iff_eq.mp h))]
  simp only [hm, if_true]
  exact hs
theorem kit_tyO {K : PySem.W.Frag} {D : Addr} {T : String} {l : List Value} (hl : PySem.fastBuiltinMro T = some l) (hn : l.contains (.ref D) = false) (hc : PySem.W.isClsIn K D = true) (ht : PySem.W.typeIn K (.ref D) = some (.type "type")) : PySem.W.kitOne K (.type T) (.ref D) = some false := by
  unfold PySem.W.kitOne PySem.W.kitCls
  have hc' : (PySem.W.clsIn K D).isSome = true := hc
  rw [if_neg (by intro h; cases (beq_iff_eq.mp h))]
  simp only [hc', ht, Bool.true_and, beq_self_eq_true, if_true]
  show (PySem.fastBuiltinMro T).map _ = _
  rw [hl]
  show some (l.contains (.ref D)) = some false
  rw [hn]
end TQ

/-! Whole numbers, powers of ten, texts of figures. -/
namespace TM
open PySem PySem.Spec PyProof.Rows L2 TQ
theorem bEq_int (i j : Int) (M : Mem) (Q : PK) : bEqP false (.int i) (.int j) M Q = Q (.bl (decide (i = j))) M := rfl
theorem bNe_int (i j : Int) (M : Mem) (Q : PK) : bEqP true (.int i) (.int j) M Q = Q (.bl (!decide (i = j))) M := rfl
theorem bEq_str (i j : Str) (M : Mem) (Q : PK) : bEqP false (.str i) (.str j) M Q = Q (.bl (decide (i = j))) M := rfl
theorem bNe_str (i j : Str) (M : Mem) (Q : PK) : bEqP true (.str i) (.str j) M Q = Q (.bl (!decide (i = j))) M := rfl
theorem bEq_bl (i j : Bool) (M : Mem) (Q : PK) : bEqP false (.bl i) (.bl j) M Q = Q (.bl (decide (i = j))) M := rfl
theorem bNe_bl (i j : Bool) (M : Mem) (Q : PK) : bEqP true (.bl i) (.bl j) M Q = Q (.bl (!decide (i = j))) M := rfl
section
variable {K : PySem.W.Frag} {M : Mem} {Q : PK}
theorem isi_ii {i : Int} : cIsi K [.int i, .ty "int"] M Q = Q (.bl true) M := isiP rfl trivial rfl rfl
theorem isi_ib {i : Int} : cIsi K [.int i, .ty "bool"] M Q = Q (.bl false) M := isiP rfl trivial rfl rfl
theorem isi_is {i : Int} : cIsi K [.int i, .ty "str"] M Q = Q (.bl false) M := isiP rfl trivial rfl rfl
theorem isi_it {i : Int} : cIsi K [.int i, .ty "tuple"] M Q = Q (.bl false) M := isiP rfl trivial rfl rfl
theorem isi_bi {i : Bool} : cIsi K [.bl i, .ty "int"] M Q = Q (.bl true) M := isiP rfl trivial rfl rfl
theorem isi_bb {i : Bool} : cIsi K [.bl i, .ty "bool"] M Q = Q (.bl true) M := isiP rfl trivial rfl rfl
theorem isi_ss {i : Str} : cIsi K [.str i, .ty "str"] M Q = Q (.bl true) M := isiP rfl trivial rfl rfl
theorem isi_st {i : Str} : cIsi K [.str i, .ty "tuple"] M Q = Q (.bl false) M := isiP rfl trivial rfl rfl
theorem isi_tt {i : List PV} : cIsi K [.tup i, .ty "tuple"] M Q = Q (.bl true) M := isiP rfl trivial rfl rfl
theorem isi_nt : cIsi K [.non, .ty "tuple"] M Q = Q (.bl false) M := isiP rfl trivial rfl rfl
end
theorem atI_in {α : Type} {xs : List α} {i : Int} (h0 : 0 ≤ i) (h1 : i < xs.length) : atI xs i = xs[i.toNat]? := by
  unfold atI ixN
  rw [if_pos h0, if_pos h1]
  rfl
theorem atI_mem {α : Type} {xs : List α} {i : Int} (h0 : 0 ≤ i) (h1 : i < xs.length) : ∃ v, v ∈ xs ∧ atI xs i = some v := by
  have h : i.toNat < xs.length := by omega
  exact ⟨xs[i.toNat], List.getElem_mem h, by rw [atI_in h0 h1, List.getElem?_eq_getElem h]⟩
theorem bIx_lst {xs : List PV} {i : Int} {M : Mem} {Q : PK} : bIx (.lst xs) (.int i) M Q = ∃ v, atI xs i = some v ∧ Q v M := rfl
theorem bIx_scr {xs : List Int} {i : Int} {M : Mem} {Q : PK} : bIx (.scr xs) (.int i) M Q = ∃ v, atI (xs.map PV.int) i = some v ∧ Q v M := rfl
theorem bIx_tup {xs : List PV} {i : Int} {M : Mem} {Q : PK} : bIx (.tup xs) (.int i) M Q = ∃ v, atI xs i = some v ∧ Q v M := rfl
theorem bIx_mset {a : Addr} {xs : List PV} {i : Int} {M : Mem} {Q : PK} : bIx (.ref a) (.int i) (mset M a (.lst xs)) Q = ∃ v, atI xs i = some v ∧ Q v (mset M a (.lst xs)) := by
  show (match ml (mset M a (.lst xs) a) with
    | some xs => ∃ v, atI xs i = some v ∧ Q v _
    | none => False) = _
  rw [mset_same]
  rfl
theorem sqA_scr {M : Mem} {ns : List Int} : sqA M (.scr ns) = some (ns.map PV.int) := rfl
theorem sqA_lst {M : Mem} {xs : List PV} : sqA M (.lst xs) = some xs := rfl
theorem sqA_mset {M : Mem} {a : Addr} {xs : List PV} : sqA (mset M a (.lst xs)) (.ref a) = some xs := by
  show ml (mset M a (.lst xs) a) = _
  rw [mset_same]
  rfl
theorem len_scr {ns : List Int} {M : Mem} {Q : PK} : len1 (.scr ns) M Q = Q (.int (ns.map PV.int).length) M := rfl
theorem len_lst {xs : List PV} {M : Mem} {Q : PK} : len1 (.lst xs) M Q = Q (.int xs.length) M := rfl
theorem len_tup {xs : List PV} {M : Mem} {Q : PK} : len1 (.tup xs) M Q = Q (.int xs.length) M := rfl
theorem len_mset {a : Addr} {xs : List PV} {M : Mem} {Q : PK} : len1 (.ref a) (mset M a (.lst xs)) Q = Q (.int xs.length) (mset M a (.lst xs)) := by
  show (match sqA (mset M a (.lst xs)) (.ref a) with
    | some ys => Q (.int ys.length) (mset M a (.lst xs))
    | none => False) = _
  rw [sqA_mset]
theorem ten_pos (n : Nat) : 0 < 10 ^ n := Nat.pow_pos (by decide)
theorem pow10_le {m n : Nat} (h : m ≤ n) : 10 ^ m ≤ 10 ^ n := Nat.pow_le_pow_right (by decide) h
theorem pow10_lt {m n : Nat} (h : m < n) : 10 ^ m < 10 ^ n := Nat.pow_lt_pow_right (by decide) h
theorem pow10_lt_inv {m n : Nat} (h : 10 ^ m < 10 ^ n) : m < n := by
  rcases Nat.lt_or_ge m n with z | z
  · exact z
  · exact absurd (pow10_le z) (by omega)
theorem pow10_16 (n : Nat) : 10 ^ n < 2 ^ (4 * n + 1) := by
  have h1 : 10 ^ n ≤ (2 ^ 4) ^ n := Nat.pow_le_pow_left (by decide) n
  rw [← Nat.pow_mul] at h1
  exact Nat.lt_of_le_of_lt h1 (Nat.pow_lt_pow_right (by decide) (by omega))
theorem pow10_lt_2 {a n : Nat} (h : a < 10 ^ n) : a < 2 ^ (4 * n + 1) := Nat.lt_trans h (pow10_16 n)
theorem two_le {m n : Nat} (h : m ≤ n) : 2 ^ m ≤ 2 ^ n := Nat.pow_le_pow_right (by decide) h
theorem cast10 (n : Nat) : ((10 ^ n : Nat) : Int) = (10 : Int) ^ n := Int.natCast_pow 10 n
theorem mul_ok {a b : Int} {m n : Nat} (ha : a.natAbs < 2 ^ m) (hb : b.natAbs < 2 ^ n) (h : m + n ≤ 134217728) : IntMulOk a b := mulOk_of_bits (intBits_le ha) (intBits_le hb) h
theorem mul_ok_nat {a b m n : Nat} (ha : a < 2 ^ m) (hb : b < 2 ^ n) (h : m + n ≤ 134217728) : IntMulOk (a : Int) (b : Int) := mul_ok (by simpa using ha) (by simpa using hb) h
theorem mul_ok_l {a b : Int} (h1 : -(2 ^ 64) < a) (h2 : a < 2 ^ 64) : IntMulOk a b := .of_left (intBits_le_64 h1 h2)
theorem mul_ok_r {a b : Int} (h1 : -(2 ^ 64) < b) (h2 : b < 2 ^ 64) : IntMulOk a b := .of_right (intBits_le_64 h1 h2)
theorem log2_lt_of {j n : Nat} (h : j < 2 ^ n) (hn : n ≤ 8000) : j.log2 < 9000 := by
  rcases Nat.eq_zero_or_pos j with z | z
  · subst z; decide
  · have := (Nat.log2_lt (by omega : j ≠ 0) (k := n)).mpr h
    omega
theorem divw {i j : Int} {n : Nat} (hj : 0 < j) (h : j.natAbs < 2 ^ n) (hn : n ≤ 8000 := by decide) : CDivW i j := ⟨hj, log2_lt_of h hn⟩
theorem divp {i j : Int} {n : Nat} (hj : 0 < j) (h : j.natAbs < 2 ^ n) (hn : n ≤ 8000 := by decide) : CDivP i j := ⟨hj, PyProof.noPylong_of_log2 (log2_lt_of h hn)⟩
theorem nat_abs_lt {n : Nat} {a : Int} (h1 : -(2 : Int) ^ n < a) (h2 : a < (2 : Int) ^ n) : a.natAbs < 2 ^ n := by
  have : ((2 ^ n : Nat) : Int) = (2 : Int) ^ n := Int.natCast_pow 2 n
  omega

/-! ### how many figures -/
def ndF : Nat → Nat → Nat
  | 0, _ => 1
  | k + 1, n => if n < 10 then 1 else 1 + ndF k (n / 10)
def nd (n : Nat) : Nat := ndF n n
theorem ndF_pos : ∀ k n, 1 ≤ ndF k n
  | 0, _ => Nat.le_refl _
  | k + 1, n => by unfold ndF; split <;> omega
theorem ndF_lt : ∀ k n, n ≤ k → n < 10 ^ ndF k n
  | 0, n, h => by have : n = 0 := by omega
                  subst this; decide
  | k + 1, n, h => by
    unfold ndF
    split
    · simpa using ‹n < 10›
    · have ih := ndF_lt k (n / 10) (by omega)
      rw [Nat.add_comm, Nat.pow_succ]
      omega
theorem ndF_le : ∀ k n, n ≤ k → 1 ≤ n → 10 ^ (ndF k n - 1) ≤ n
  | 0, n, h, h1 => by omega
  | k + 1, n, h, h1 => by
    unfold ndF
    split
    · simpa using h1
    · have ih := ndF_le k (n / 10) (by omega) (by omega)
      have hp := ndF_pos k (n / 10)
      have e : 1 + ndF k (n / 10) - 1 = (ndF k (n / 10) - 1) + 1 := by omega
      rw [e, Nat.pow_succ]
      omega
theorem nd_pos (n : Nat) : 1 ≤ nd n := ndF_pos n n
theorem nd_lt (n : Nat) : n < 10 ^ nd n := ndF_lt n n (Nat.le_refl _)
theorem nd_le {n : Nat} (h : 1 ≤ n) : 10 ^ (nd n - 1) ≤ n := ndF_le n n (Nat.le_refl _) h
theorem nd_of {n c : Nat} (h0 : 1 ≤ c) (h1 : 10 ^ (c - 1) ≤ n) (h2 : n < 10 ^ c) : nd n = c := by
  have hp : 1 ≤ n := Nat.le_trans (ten_pos _) h1
  have a := pow10_lt_inv (Nat.lt_of_le_of_lt (nd_le hp) h2)
  have b := pow10_lt_inv (Nat.lt_of_le_of_lt h1 (nd_lt n))
  have := nd_pos n
  omega
theorem nd_zero : nd 0 = 1 := rfl
theorem nd_le_of {n c : Nat} (h0 : 1 ≤ c) (h : n < 10 ^ c) : nd n ≤ c := by
  rcases Nat.eq_zero_or_pos n with z | z
  · subst z; rw [nd_zero]; exact h0
  · have := pow10_lt_inv (Nat.lt_of_le_of_lt (nd_le z) h)
    omega
theorem nd_ge_of {n c : Nat} (h : 10 ^ c ≤ n) : c + 1 ≤ nd n := by
  have := pow10_lt_inv (Nat.lt_of_le_of_lt h (nd_lt n))
  omega
theorem guess {m b : Nat} (h : m * 100000 ≤ b * 30102) : 10 ^ m ≤ 2 ^ b := by
  have key : 10 ^ 30102 ≤ 2 ^ 100000 := by decide +kernel
  rcases Nat.lt_or_ge (2 ^ b) (10 ^ m) with z | z
  · exfalso
    have h1 : (2 ^ b) ^ 30102 < (10 ^ m) ^ 30102 := Nat.pow_lt_pow_left z (by decide)
    have h2 : (10 ^ m) ^ 30102 = (10 ^ 30102) ^ m := by rw [← Nat.pow_mul, ← Nat.pow_mul, Nat.mul_comm]
    have h4 : (2 ^ 100000) ^ m ≤ (2 ^ b) ^ 30102 := by
      rw [← Nat.pow_mul, ← Nat.pow_mul]
      exact two_le (by omega)
    rw [h2] at h1
    revert key h1 h4
    generalize 10 ^ 30102 = A
    generalize 2 ^ 100000 = B
    intro key h1 h4
    have h3 : A ^ m ≤ B ^ m := Nat.pow_le_pow_left key m
    exact absurd (Nat.lt_of_lt_of_le h1 (Nat.le_trans h3 h4)) (Nat.lt_irrefl _)
  · exact z

/-! ### texts of figures -/
theorem fold_app : ∀ (l : List (Array Nat)) (acc : Array Nat), (l.foldl (· ++ ·) acc).toList = acc.toList ++ (l.map Array.toList).flatten
  | [], acc => by simp
  | x :: l, acc => by rw [List.foldl_cons, fold_app l]; simp [List.append_assoc]
theorem rep_flat {α : Type} (a : α) : ∀ n : Nat, (List.replicate n [a]).flatten = List.replicate n a
  | 0 => rfl
  | n + 1 => by rw [List.replicate_succ, List.flatten_cons, rep_flat a n]; rfl
theorem repS_list (x : Str) (n : Int) : (repS x n).cps.toList = (List.replicate n.toNat x.cps.toList).flatten := by
  unfold repS
  rw [fold_app]
  simp
theorem repS_zeros (n : Int) : (repS ("0" : Str) n).cps.toList = List.replicate n.toNat 48 := by
  rw [repS_list]
  exact rep_flat 48 _
theorem dv_app : ∀ (l : List Nat) (acc : Nat), l.foldl (fun acc c => acc * 10 + (c - 48)) acc = acc * 10 ^ l.length + NumText.digitsVal l
  | [], acc => by simp [NumText.digitsVal]
  | c :: l, acc => by
    unfold NumText.digitsVal
    rw [List.foldl_cons, List.foldl_cons, dv_app l, dv_app l (0 * 10 + (c - 48)), List.length_cons, Nat.pow_succ, Nat.add_mul, Nat.mul_assoc, Nat.mul_comm 10]
    simp [Nat.add_assoc]
theorem dv_zeros : ∀ (n acc : Nat), (List.replicate n 48).foldl (fun acc c => acc * 10 + (c - 48)) acc = acc * 10 ^ n
  | 0, acc => by simp
  | n + 1, acc => by rw [List.replicate_succ, List.foldl_cons, dv_zeros n, Nat.pow_succ]; simp [Nat.mul_assoc, Nat.mul_comm 10]
theorem one_zero_list (n : Int) : (("1" : Str) ++ repS ("0" : Str) n).cps.toList = 49 :: List.replicate n.toNat 48 := by
  show ((("1" : Str).cps ++ (repS ("0" : Str) n).cps).toList = _)
  rw [Array.toList_append, repS_zeros]
  rfl
theorem one_zero_len (n : Int) : (("1" : Str) ++ repS ("0" : Str) n).length = n.toNat + 1 := by
  have := congrArg List.length (one_zero_list n)
  rw [Array.length_toList, List.length_cons, List.length_replicate] at this
  exact this
theorem ten_text {n : Int} (h : n ≤ 4000) : PySem.intText? (("1" : Str) ++ repS ("0" : Str) n) = some ((10 ^ n.toNat : Nat) : Int) := by
  rw [PySem.intText_digits (x := ("1" : Str) ++ repS ("0" : Str) n)]
  · rw [one_zero_list]
    unfold NumText.digitsVal
    rw [List.foldl_cons, dv_zeros]
    simp
  · rw [one_zero_list]
    intro c hc
    rcases List.mem_cons.mp hc with rfl | hc
    · decide
    · have := (List.mem_replicate.mp hc).2
      omega
  · rw [one_zero_list]
    exact List.cons_ne_nil _ _
  · rw [one_zero_len]
    omega
end TM

/-! Readings run from the head on; what comes behind lies in boxes, so that nothing looks at it too early. -/
namespace TN
open PySem PySem.Spec PyProof.Rows L2 TQ TM
class Box (α : Sort u) where
  v : α
theorem box_v {α : Sort u} (a : α) : (Box.mk a).v = a := rfl
def iteP (c : Prop) [Decidable c] [A : Box Prop] [B : Box Prop] : Prop := if c then A.v else B.v
def iteB (b : Bool) (A B : Prop) : Prop := if b = true then A else B
def blP (x : PV) (A : Bool → Prop) : Prop := ∃ k, x = .bl k ∧ A k
def vP (o : Option (Option PV)) (M : Mem) [Q : Box PK] : Prop := ∃ x, o = some (some x) ∧ Q.v x M
def ixP (o : Option PV) (M : Mem) [Q : Box PK] : Prop := ∃ x, o = some x ∧ Q.v x M
def nxP (env : Sl) (M : Mem) [Q : Box (Sl → Mem → Prop)] : Prop := Q.v env M
def callP (s : SpQ) (xs : List PV) (M : Mem) [Q : Box PK] [E : Box EK] : Prop := s xs M Q.v E.v
def fldB (K : PySem.W.Frag) (f : Str) (x : PV) (M : Mem) [Q : Box PK] : Prop := fldP K f x M Q.v
def mthB (C : Addr) (m : Str) (x : PV) (M : Mem) [R : Box Prop] : Prop := mthP C m x M R.v
def isiB (K : PySem.W.Frag) (x c : PV) (M : Mem) [Q : Box PK] : Prop := cIsi K [x, c] M Q.v
def app1 (x : PV) (M : Mem) [R : Box Prop] : Prop := ∃ a ys, x = .ref a ∧ M a = some (.lst ys) ∧ R.v
def app2 (x y : PV) (M : Mem) [Q : Box PK] : Prop := ∃ a zs, x = .ref a ∧ M a = some (.lst zs) ∧ zs.length < sizeLine ∧ Q.v .non (mset M a (.lst (zs ++ [y])))
def txtP (a : Str) (M : Mem) [Q : Box PK] : Prop := ∃ n, PySem.intText? a = some n ∧ a.length ≤ 640 ∧ Q.v (.int n) M
def truP (x : PV) (M : Mem) [A : Box (Bool → Prop)] : Prop := ∃ b, trP M x = some b ∧ A.v b
def lstP (xs : List PV) (M : Mem) [Q : Box PK] : Prop := ∀ p, M p = none → Q.v (.ref p) (mset M p (.lst xs))
section
variable {c p : Prop} [Decidable c] [Decidable p] {A B : Prop}
theorem iteP_of {A B : Box Prop} (h1 : c → A.v) (h2 : ¬ c → B.v) : @iteP c _ A B := ite2 h1 h2
theorem iteP_t {A B : Box Prop} (h : c) (h1 : A.v) : @iteP c _ A B := iteP_of (fun _ => h1) fun z => absurd h z
theorem iteP_f {A B : Box Prop} (h : ¬ c) (h1 : B.v) : @iteP c _ A B := iteP_of (fun z => absurd z h) fun _ => h1
theorem iteP_true {d : Decidable True} {A B : Box Prop} : @iteP True d A B = A.v := if_pos trivial
theorem iteP_false {d : Decidable False} {A B : Box Prop} : @iteP False d A B = B.v := if_neg id
theorem iteB_dec : iteB (decide p) A B = @iteP p _ ⟨A⟩ ⟨B⟩ := by
  unfold iteB iteP
  by_cases h : p <;> simp [h]
theorem iteB_t : iteB true A B = A := if_pos rfl
theorem iteB_f : iteB false A B = B := if_neg (by decide)
theorem iteB_not {b : Bool} : iteB (!b) A B = iteB b B A := by cases b <;> rfl
theorem iteB_beq {α : Type} [DecidableEq α] {x y : α} : iteB (x == y) A B = @iteP (x = y) _ ⟨A⟩ ⟨B⟩ := by
  unfold iteB iteP
  by_cases h : x = y <;> simp [h]
theorem iteB_bne {α : Type} [DecidableEq α] {x y : α} : iteB (x != y) A B = @iteP (x = y) _ ⟨B⟩ ⟨A⟩ := by
  unfold iteB iteP
  by_cases h : x = y <;> simp [h]
theorem iteB_of {b : Bool} (h1 : b = true → A) (h2 : b = false → B) : iteB b A B := by cases b; exact h2 rfl; exact h1 rfl
theorem blP_bl {k : Bool} {A : Bool → Prop} : blP (.bl k) A = A k := propext ⟨fun ⟨_, h, q⟩ => by cases h; exact q, fun q => ⟨_, rfl, q⟩⟩
end
section
variable {K : PySem.W.Frag} {env : Sl} {M : Mem} {Q : PK} {E : EK} {D : QEnds} {x y : PV} {xs : List PV}
theorem vP_some {Q : Box PK} : @vP (some (some x)) M Q = Q.v x M := propext ⟨fun ⟨_, h, q⟩ => by cases h; exact q, fun q => ⟨_, rfl, q⟩⟩
theorem ixP_some {Q : Box PK} : @ixP (some x) M Q = Q.v x M := propext ⟨fun ⟨_, h, q⟩ => by cases h; exact q, fun q => ⟨_, rfl, q⟩⟩
theorem nxP_eq {Q : Box (Sl → Mem → Prop)} : @nxP env M Q = Q.v env M := rfl
theorem dec_t {d : Decidable True} : @decide True d = true := decide_eq_true trivial
theorem dec_f {d : Decidable False} : @decide False d = false := decide_eq_false id
theorem c_0 : ((0 : Nat) : Int) = 0 := rfl
theorem c_1 : ((1 : Nat) : Int) = 1 := rfl
theorem c_2 : ((2 : Nat) : Int) = 2 := rfl
theorem c_3 : ((3 : Nat) : Int) = 3 := rfl
theorem c_4 : ((4 : Nat) : Int) = 4 := rfl
/-! values -/
theorem e_qVar {i : Nat} : qVar i env M Q E = @vP env[i]? M ⟨Q⟩ := rfl
theorem e_qC : qC x env M Q E = Q x M := rfl
theorem e_q2 {f : F2} {a b : QT} : q2 f a b env M Q E = a env M (fun x M1 => b env M1 (fun y M2 => f x y M2 Q) E) E := rfl
theorem e_qTst {t : QT} {Q : Bool → Mem → Prop} : qTst t env M Q E = t env M (fun x M1 => blP x fun b => Q b M1) E := rfl
theorem e_qAnd {t u : QB} {Q : Bool → Mem → Prop} : qAnd t u env M Q E = t env M (fun c M1 => iteB c (u env M1 Q E) (Q false M1)) E := rfl
theorem e_qOr {t u : QB} {Q : Bool → Mem → Prop} : qOr t u env M Q E = t env M (fun c M1 => iteB c (Q true M1) (u env M1 Q E)) E := rfl
theorem e_qNot {t : QB} {Q : Bool → Mem → Prop} : qNot t env M Q E = t env M (fun c M1 => Q (!c) M1) E := rfl
theorem e_qAndV {t u : QT} : qAndV t u env M Q E = t env M (fun x M1 => blP x fun c => iteB c (u env M1 Q E) (Q (.bl false) M1)) E := rfl
theorem e_qOrV {t u : QT} : qOrV t u env M Q E = t env M (fun x M1 => blP x fun c => iteB c (Q (.bl true) M1) (u env M1 Q E)) E := rfl
theorem e_qNotV {t : QT} : qNotV t env M Q E = t env M (fun x M1 => blP x fun c => Q (.bl (!c)) M1) E := rfl
theorem e_qIf {c : QB} {t u : QT} : qIf c t u env M Q E = c env M (fun b M1 => iteB b (t env M1 Q E) (u env M1 Q E)) E := rfl
theorem e_qNil {Q : List PV → Mem → Prop} : qNil env M Q E = Q [] M := rfl
theorem e_qCons {t : QT} {r : QA} {Q : List PV → Mem → Prop} : qCons t r env M Q E = t env M (fun x M1 => r env M1 (fun xs M2 => Q (x :: xs) M2) E) E := rfl
def tupP (xs : List PV) (M : Mem) (Q : PK) : Prop := xs.length ≤ sizeLine ∧ Q (.tup xs) M
def lisP (xs : List PV) (M : Mem) (Q : PK) : Prop := xs.length ≤ sizeLine ∧ Q (.lst xs) M
def lsmP (xs : List PV) (M : Mem) (Q : PK) : Prop := xs.length ≤ sizeLine ∧ ∀ p, M p = none → Q (.ref p) (mset M p (.lst xs))
theorem e_qTup {t : QA} : qTup t env M Q E = t env M (fun xs M1 => tupP xs M1 Q) E := rfl
theorem e_qLst {t : QA} : qLst t env M Q E = t env M (fun xs M1 => lisP xs M1 Q) E := rfl
theorem e_qLstM {t : QA} : qLstM t env M Q E = t env M (fun xs M1 => lsmP xs M1 Q) E := rfl
theorem len_ok {n : Nat} (h : n ≤ 1000) : n ≤ sizeLine := by rw [sizeLine_eq]; omega
theorem len_lt {n : Nat} (h : n < 1000) : n < sizeLine := by rw [sizeLine_eq]; omega
theorem tup_0 : tupP [] M Q = Q (.tup []) M := propext ⟨fun h => h.2, fun h => ⟨len_ok (by decide), h⟩⟩
variable {a b c d e f g h i : PV}
theorem tup_1 : tupP [a] M Q = Q (.tup [a]) M := propext ⟨fun h => h.2, fun h => ⟨len_ok (by decide : 1 ≤ 1000), h⟩⟩
theorem tup_2 : tupP [a, b] M Q = Q (.tup [a, b]) M := propext ⟨fun h => h.2, fun h => ⟨len_ok (by decide : 2 ≤ 1000), h⟩⟩
theorem tup_3 : tupP [a, b, c] M Q = Q (.tup [a, b, c]) M := propext ⟨fun h => h.2, fun h => ⟨len_ok (by decide : 3 ≤ 1000), h⟩⟩
theorem tup_4 : tupP [a, b, c, d] M Q = Q (.tup [a, b, c, d]) M := propext ⟨fun h => h.2, fun h => ⟨len_ok (by decide : 4 ≤ 1000), h⟩⟩
theorem tup_5 : tupP [a, b, c, d, e] M Q = Q (.tup [a, b, c, d, e]) M := propext ⟨fun h => h.2, fun h => ⟨len_ok (by decide : 5 ≤ 1000), h⟩⟩
theorem lis_0 : lisP [] M Q = Q (.lst []) M := propext ⟨fun h => h.2, fun h => ⟨len_ok (by decide), h⟩⟩
theorem lis_1 : lisP [a] M Q = Q (.lst [a]) M := propext ⟨fun h => h.2, fun h => ⟨len_ok (by decide : 1 ≤ 1000), h⟩⟩
theorem lis_2 : lisP [a, b] M Q = Q (.lst [a, b]) M := propext ⟨fun h => h.2, fun h => ⟨len_ok (by decide : 2 ≤ 1000), h⟩⟩
theorem lis_3 : lisP [a, b, c] M Q = Q (.lst [a, b, c]) M := propext ⟨fun h => h.2, fun h => ⟨len_ok (by decide : 3 ≤ 1000), h⟩⟩
theorem lis_4 : lisP [a, b, c, d] M Q = Q (.lst [a, b, c, d]) M := propext ⟨fun h => h.2, fun h => ⟨len_ok (by decide : 4 ≤ 1000), h⟩⟩
theorem lis_5 : lisP [a, b, c, d, e] M Q = Q (.lst [a, b, c, d, e]) M := propext ⟨fun h => h.2, fun h => ⟨len_ok (by decide : 5 ≤ 1000), h⟩⟩
theorem lis_6 : lisP [a, b, c, d, e, f] M Q = Q (.lst [a, b, c, d, e, f]) M := propext ⟨fun h => h.2, fun h => ⟨len_ok (by decide : 6 ≤ 1000), h⟩⟩
theorem lis_7 : lisP [a, b, c, d, e, f, g] M Q = Q (.lst [a, b, c, d, e, f, g]) M := propext ⟨fun h => h.2, fun h => ⟨len_ok (by decide : 7 ≤ 1000), h⟩⟩
theorem lis_8 : lisP [a, b, c, d, e, f, g, h] M Q = Q (.lst [a, b, c, d, e, f, g, h]) M := propext ⟨fun h => h.2, fun h => ⟨len_ok (by decide : 8 ≤ 1000), h⟩⟩
theorem lsm_eq : lsmP xs M Q = (xs.length ≤ sizeLine ∧ @lstP xs M ⟨Q⟩) := rfl
theorem lstP_of {Q : Box PK} (h : ∀ p, M p = none → Q.v (.ref p) (mset M p (.lst xs))) : @lstP xs M Q := h
/-! built-ins -/
theorem e_qCB {r : FC} {t : QA} : qCB r t env M Q E = t env M (fun xs M1 => r xs M1 Q) E := rfl
theorem e_cLen : cLen [x] M Q = len1 x M Q := rfl
theorem e_cMax {i j : Int} : cMax [.int i, .int j] M Q = Q (.int (max i j)) M := rfl
theorem e_cMin {i j : Int} : cMin [.int i, .int j] M Q = Q (.int (min i j)) M := rfl
theorem e_cAbs {i : Int} : cAbs [.int i] M Q = Q (.int i.natAbs) M := rfl
theorem e_cInt_i {i : Int} : cInt [.int i] M Q = Q (.int i) M := rfl
theorem e_cInt_d {p : Prop} [Decidable p] : cInt [.bl (decide p)] M Q = Q (.int (if p then 1 else 0)) M := by
  show Q (.int (if decide p = true then 1 else 0)) M = _
  simp only [decide_eq_true_eq]
theorem e_cInt_nd {p : Prop} [Decidable p] : cInt [.bl (!decide p)] M Q = Q (.int (if p then 0 else 1)) M := by
  show Q (.int (if (!decide p) = true then 1 else 0)) M = _
  by_cases h : p <;> simp [h]
theorem e_cInt_b {b : Bool} : cInt [.bl b] M Q = Q (.int (if b then 1 else 0)) M := rfl
theorem e_cInt_s {a : Str} : cInt [.str a] M Q = @txtP a M ⟨Q⟩ := rfl
theorem e_cStr {i : Int} : cStr [.int i] M Q = (i.natAbs.log2 < 1920 ∧ Q (.str (toString i)) M) := rfl
theorem e_cDivmod {i j : Int} : cDivmod [.int i, .int j] M Q = (CDivP i j ∧ Q (.tup [.int (i / j), .int (i % j)]) M) := rfl
theorem e_cIsi : cIsi K [x, y] M Q = @isiB K x y M ⟨Q⟩ := rfl
theorem e_qBits {t : QT} : qBits t env M Q E = t env M (fun x M1 => ∃ i, x = .int i ∧ Q (.int (Builtin.Int.intBits i : Nat)) M1) E := rfl
def intP (x : PV) (A : Int → Prop) : Prop := ∃ i, x = .int i ∧ A i
theorem intP_int {i : Int} {A : Int → Prop} : intP (.int i) A = A i := propext ⟨fun ⟨_, h, q⟩ => by cases h; exact q, fun q => ⟨_, rfl, q⟩⟩
theorem e_qBits2 {t : QT} : qBits t env M Q E = t env M (fun x M1 => intP x fun i => Q (.int (Builtin.Int.intBits i : Nat)) M1) E := rfl
theorem e_qNeg {t : QT} : qNeg t env M Q E = t env M (fun x M1 => intP x fun i => Q (.int (-i)) M1) E := rfl
theorem e_qSl {t : QT} {lo hi : QO} : qSl t lo hi env M Q E = t env M (fun x M1 => lo env M1 (fun l M2 => hi env M2 (fun u M3 => bSl l u x M3 Q) E) E) E := rfl
theorem e_qoNone {Q : Option Int → Mem → Prop} : qoNone env M Q E = Q none M := rfl
theorem e_qoSome {t : QT} {Q : Option Int → Mem → Prop} : qoSome t env M Q E = t env M (fun x M1 => intP x fun i => Q (some i) M1) E := rfl
/-! calls, fields, instances -/
theorem e_qCall {s : SpQ} {t : QA} : qCall s t env M Q E = t env M (fun xs M1 => @callP s xs M1 ⟨Q⟩ ⟨E⟩) E := rfl
theorem e_qFld {f : Str} {t : QT} : qFld K f t env M Q E = t env M (fun x M1 => @fldB K f x M1 ⟨Q⟩) E := rfl
theorem e_qMeth {C : Addr} {m : Str} {s : SpQ} {to : QT} {t : QA} : qMeth C m s to t env M Q E = to env M (fun x M1 => @mthB C m x M1 ⟨t env M1 (fun ys M2 => @callP s (x :: ys) M2 ⟨Q⟩ ⟨E⟩) E⟩) E := rfl
def makP (C : Addr) (ns : List Str) (xs : List PV) (M : Mem) (Q : PK) : Prop := xs.length = ns.length ∧ Q (.obj C ns xs) M
theorem e_qMake {C : Addr} {ns : List Str} {dps : List PV} {t : QA} : qMake C ns dps t env M Q E = t env M (fun xs M1 => makP C ns (xs ++ dps) M1 Q) E := rfl
theorem makP_of {C : Addr} {ns : List Str} (h : xs.length = ns.length) : makP C ns xs M Q = Q (.obj C ns xs) M := propext ⟨fun z => z.2, fun z => ⟨h, z⟩⟩
theorem makP_2 {C : Addr} {n1 n2 : Str} {a b : PV} : makP C [n1, n2] [a, b] M Q = Q (.obj C [n1, n2] [a, b]) M := makP_of rfl
theorem makP_3 {C : Addr} {n1 n2 n3 : Str} {a b c : PV} : makP C [n1, n2, n3] [a, b, c] M Q = Q (.obj C [n1, n2, n3] [a, b, c]) M := makP_of rfl
theorem makP_4 {C : Addr} {n1 n2 n3 n4 : Str} {a b c d : PV} : makP C [n1, n2, n3, n4] [a, b, c, d] M Q = Q (.obj C [n1, n2, n3, n4] [a, b, c, d]) M := makP_of rfl
theorem e_qMakeK {C : Addr} {ns : List Str} {n m : Nat} {gP : List PV → List PV → List PV} {t tk : QA} : qMakeK C ns n m gP t tk env M Q E = t env M (fun xs M1 => tk env M1 (fun zs M2 => xs.length = n ∧ zs.length = m ∧ makP C ns (gP xs zs) M2 Q) E) E := rfl
/-! the rest -/
theorem e_qOrT {ta tb : QT} : qOrT ta tb env M Q E = ta env M (fun x M1 => @truP x M1 ⟨fun k => iteB k (Q x M1) (tb env M1 Q E)⟩) E := rfl
theorem e_qOrC {ta : QT} : qOrT ta (qC y) env M Q E = ta env M (fun x M1 => @truP x M1 ⟨fun k => Q (if k = true then x else y) M1⟩) E := by
  show ta env M (fun x M1 => ∃ k, trP M1 x = some k ∧ if k = true then Q x M1 else Q y M1) E = ta env M (fun x M1 => ∃ k, trP M1 x = some k ∧ Q (if k = true then x else y) M1) E
  congr 1
  funext x M1
  congr 1
  funext k
  cases k <;> rfl
theorem truP_some {b : Bool} {A : Box (Bool → Prop)} (h : trP M x = some b) : @truP x M A = A.v b := propext ⟨fun ⟨_, h', q⟩ => by rw [h] at h'; cases h'; exact q, fun q => ⟨_, h, q⟩⟩
theorem truP_int {i : Int} {A : Box (Bool → Prop)} : @truP (.int i) M A = A.v (i != 0) := truP_some rfl
theorem truP_bl {i : Bool} {A : Box (Bool → Prop)} : @truP (.bl i) M A = A.v i := truP_some rfl
theorem truP_non {A : Box (Bool → Prop)} : @truP .non M A = A.v false := truP_some rfl
theorem if_int {k : Bool} {i j : Int} : (if k = true then PV.int i else PV.int j) = PV.int (if k = true then i else j) := by cases k <;> rfl
theorem e_qTru {t : QT} {Q : Bool → Mem → Prop} : qTru t env M Q E = t env M (fun x M1 => @truP x M1 ⟨fun b => Q b M1⟩) E := rfl
theorem e_qChain {f f' : F2} {ta tb tc : QT} : qChain f f' ta tb tc env M Q E = ta env M (fun x M1 => tb env M1 (fun y M2 => f x y M2 fun z M3 => blP z fun k => iteB k (tc env M3 (fun u M4 => f' y u M4 Q) E) (Q (.bl false) M3)) E) E := rfl
theorem e_qApp {to te : QT} : qApp to te env M Q E = to env M (fun x M1 => @app1 x M1 ⟨te env M1 (fun y M2 => @app2 x y M2 ⟨Q⟩) E⟩) E := by
  show to env M (fun x M1 => ∃ a ys, x = .ref a ∧ M1 a = some (.lst ys) ∧ te env M1 (fun y M2 => ∃ zs, M2 a = some (.lst zs) ∧ zs.length < sizeLine ∧ Q .non (mset M2 a (.lst (zs ++ [y])))) E) E =
    to env M (fun x M1 => ∃ a ys, x = .ref a ∧ M1 a = some (.lst ys) ∧ te env M1 (fun y M2 => ∃ a zs, x = .ref a ∧ M2 a = some (.lst zs) ∧ zs.length < sizeLine ∧ Q .non (mset M2 a (.lst (zs ++ [y])))) E) E
  congr 1
  funext x M1
  apply propext
  refine exists_congr fun a => exists_congr fun ys => and_congr_right fun hx => ?_
  subst hx
  have e : (fun (y : PV) (M2 : Mem) => ∃ zs, M2 a = some (.lst zs) ∧ zs.length < sizeLine ∧ Q .non (mset M2 a (.lst (zs ++ [y])))) = fun y M2 => ∃ b zs, PV.ref a = .ref b ∧ M2 b = some (.lst zs) ∧ zs.length < sizeLine ∧ Q .non (mset M2 b (.lst (zs ++ [y]))) := by
    funext y M2
    apply propext
    exact ⟨fun ⟨zs, h⟩ => ⟨a, zs, rfl, h⟩, fun ⟨b, zs, h1, h⟩ => by cases h1; exact ⟨zs, h⟩⟩
  rw [e]
theorem app1_mset {p : Addr} {ys : List PV} {R : Box Prop} : @app1 (.ref p) (mset M p (.lst ys)) R = R.v := propext ⟨fun ⟨_, _, _, _, q⟩ => q, fun q => ⟨_, _, rfl, mset_same, q⟩⟩
theorem app2_mset {p : Addr} {ys : List PV} {Q : Box PK} : @app2 (.ref p) y (mset M p (.lst ys)) Q = (ys.length < sizeLine ∧ Q.v .non (mset M p (.lst (ys ++ [y])))) := propext
  ⟨fun ⟨_, _, h, h1, q⟩ => by cases h; rw [mset_same] at h1; cases h1; rw [mset_mset] at q; exact q, fun q => ⟨_, _, rfl, mset_same, by rw [mset_mset]; exact q⟩⟩
/-! values of two -/
theorem b_add_i {i j : Int} : bAdd (.int i) (.int j) M Q = Q (.int (i + j)) M := rfl
theorem b_add_s {i j : Str} : bAdd (.str i) (.str j) M Q = (i.length + j.length ≤ sizeLine ∧ Q (.str (i ++ j)) M) := rfl
theorem b_add_l {i j : List PV} : bAdd (.lst i) (.lst j) M Q = (i.length + j.length ≤ sizeLine ∧ Q (.lst (i ++ j)) M) := rfl
theorem b_sub {i j : Int} : bSub (.int i) (.int j) M Q = Q (.int (i - j)) M := rfl
theorem b_mul_i {i j : Int} : bMul (.int i) (.int j) M Q = (IntMulOk i j ∧ Q (.int (i * j)) M) := rfl
theorem b_mul_s {a : Str} {n : Int} : bMul (.str a) (.int n) M Q = ((0 ≤ n ∧ n ≤ 100000 ∧ a.length ≤ 100) ∧ Q (.str (repS a n)) M) := rfl
theorem b_div {i j : Int} : bDiv (.int i) (.int j) M Q = (CDivW i j ∧ Q (.int (i / j)) M) := rfl
theorem b_mod {i j : Int} : bMod (.int i) (.int j) M Q = (0 < j ∧ Q (.int (i % j)) M) := rfl
theorem b_pow {i j : Int} : bPow (.int i) (.int j) M Q = (CPow i j ∧ Q (.int (i ^ j.toNat)) M) := rfl
theorem b_lt {i j : Int} : bLt (.int i) (.int j) M Q = Q (.bl (decide (i < j))) M := rfl
theorem b_le {i j : Int} : bLe (.int i) (.int j) M Q = Q (.bl (decide (i ≤ j))) M := rfl
theorem b_gt {i j : Int} : bGt (.int i) (.int j) M Q = Q (.bl (decide (j < i))) M := rfl
theorem b_ge {i j : Int} : bGe (.int i) (.int j) M Q = Q (.bl (decide (j ≤ i))) M := rfl
theorem i_add_i {i j : Int} : iAdd (.int i) (.int j) M Q = Q (.int (i + j)) M := rfl
theorem i_add_s {i j : Str} : iAdd (.str i) (.str j) M Q = (i.length + j.length ≤ sizeLine ∧ Q (.str (i ++ j)) M) := rfl
theorem i_mul_i {i j : Int} : iMul (.int i) (.int j) M Q = (IntMulOk i j ∧ Q (.int (i * j)) M) := rfl
def eqP (neg : Bool) (o o' : Option PyData) (M : Mem) [Q : Box PK] : Prop := match o, o' with
  | some d, some e => min d.depth e.depth ≤ 64 ∧ Q.v (.bl (if neg then !PyData.eqv d e else PyData.eqv d e)) M
  | _, _ => False
theorem xi_lst {i : Int} : bIx (.lst xs) (.int i) M Q = @ixP (atI xs i) M ⟨Q⟩ := rfl
theorem xi_scr {ns : List Int} {i : Int} : bIx (.scr ns) (.int i) M Q = @ixP (atI (ns.map PV.int) i) M ⟨Q⟩ := rfl
theorem xi_tup {i : Int} : bIx (.tup xs) (.int i) M Q = @ixP (atI xs i) M ⟨Q⟩ := rfl
theorem xi_mset {a : Addr} {i : Int} : bIx (.ref a) (.int i) (mset M a (.lst xs)) Q = @ixP (atI xs i) (mset M a (.lst xs)) ⟨Q⟩ := bIx_mset
theorem at_0 {α : Type} {a : α} {l : List α} : atI (a :: l) 0 = some a := by rw [atI_in (by decide) (by simp)]; rfl
theorem at_1 {α : Type} {a b : α} {l : List α} : atI (a :: b :: l) 1 = some b := by rw [atI_in (by decide) (by simp; omega)]; rfl
theorem at_2 {α : Type} {a b c : α} {l : List α} : atI (a :: b :: c :: l) 2 = some c := by rw [atI_in (by decide) (by simp; omega)]; rfl
theorem at_3 {α : Type} {a b c d : α} {l : List α} : atI (a :: b :: c :: d :: l) 3 = some d := by rw [atI_in (by decide) (by simp; omega)]; rfl
theorem sqA_ref {a : Addr} (h : M a = some (.lst xs)) : sqA M (.ref a) = some xs := by
  show ml (M a) = _
  rw [h]
  rfl
theorem dat2 {a b : Int} : dat M (.tup [.int a, .int b]) = some (.tuple [.int a, .int b]) := rfl
theorem bNe_pair {a b : Int} : bEqP true (.tup [.int a, .int b]) (.tup [.int a, .int b]) M Q = Q (.bl false) M := by
  have e : PyData.eqv (.tuple [.int a, .int b]) (.tuple [.int a, .int b]) = true := by simp [PyData.eqv, PyData.eqvAll]
  show (min _ _ ≤ 64 ∧ Q (.bl (if true = true then !PyData.eqv (.tuple [.int a, .int b]) (.tuple [.int a, .int b]) else _)) M) = _
  rw [e]
  exact propext ⟨fun h => h.2, fun h => ⟨by simp [PyData.depth, PyData.depthAll], h⟩⟩
theorem mext_set {p : Addr} {o : MO} (h : M p = none) : MExt M (mset M p o) := fun a u e => by rw [mset_ne (by rintro rfl; rw [h] at e; cases e)]; exact e
theorem mext_trans {M1 M2 M3 : Mem} (h : MExt M1 M2) (k : MExt M2 M3) : MExt M1 M3 := fun a u e => k a u (h a u e)
theorem app1_ref {a : Addr} {ys : List PV} {R : Box Prop} (h : M a = some (.lst ys)) (q : R.v) : @app1 (.ref a) M R := ⟨a, ys, rfl, h, q⟩
theorem app2_ref {a : Addr} {ys : List PV} {Q : Box PK} (h : M a = some (.lst ys)) (l : ys.length < sizeLine) (q : Q.v .non (mset M a (.lst (ys ++ [y])))) : @app2 (.ref a) y M Q := ⟨a, ys, rfl, h, l, q⟩
theorem bEq_nil : bEqP false (.lst []) (.lst []) M Q = Q (.bl true) M := propext ⟨fun h => h.2, fun h => ⟨by decide, h⟩⟩
/-! statements -/
theorem e_sNext : sNext D env M = D.nx env M := rfl
theorem e_sSeq {t u : QS} : sSeq t u D env M = t { D with nx := u D } env M := rfl
theorem e_sRet {t : QT} : sRet t D env M = t env M D.rt (exE D env) := rfl
theorem e_sDrop {t : QT} : sDrop t D env M = t env M (fun _ M1 => D.nx env M1) (exE D env) := rfl
theorem e_sIf {c : QB} {t u : QS} : sIf c t u D env M = c env M (fun b M1 => iteB b (t D env M1) (u D env M1)) (exE D env) := rfl
theorem e_sAsg {t : QT} {g : QTG} : sAsg t g D env M = t env M (fun x M1 => g x env M1 D.nx) (exE D env) := rfl
theorem e_sAug {i : Nat} {t : QT} {f : F2} : sAug i t f D env M = @vP env[i]? M ⟨fun x _ => t env M (fun y M1 => f x y M1 fun z M2 => @nxP (env.set i (some z)) M2 ⟨D.nx⟩) (exE D env)⟩ := rfl
theorem e_sBreak : sBreak D env M = D.bk env M := rfl
theorem e_sCont : sCont D env M = D.ct env M := rfl
theorem e_gNm {i : Nat} {Q : Sl → Mem → Prop} : gNm i x env M Q = @nxP (env.set i (some x)) M ⟨Q⟩ := rfl
theorem e_gTu {n : Nat} {gs : QTGs} {Q : Sl → Mem → Prop} : gTu n gs (.tup xs) env M Q = (xs.length = n ∧ gs xs env M Q) := rfl
theorem e_gsNil {Q : Sl → Mem → Prop} : gsNil [] env M Q = Q env M := rfl
theorem e_gsCons {g : QTG} {gs : QTGs} {Q : Sl → Mem → Prop} : gsCons g gs (x :: xs) env M Q = g x env M fun env' M' => gs xs env' M' Q := rfl
theorem seq_cut {t u : QS} (P : Sl → Mem → Prop) (h1 : ∀ R : Sl → Mem → Prop, (∀ env M, P env M → R env M) → t { D with nx := R } env M) (h2 : ∀ env M, P env M → u D env M) : sSeq t u D env M := h1 (u D) h2
theorem seq_go {t u : QS} (h : t { D with nx := u D } env M) : sSeq t u D env M := h
theorem s_asg {t : QT} {g : QTG} {u : QS} : sSeq (sAsg t g) u D env M = sAsg t g { D with nx := u D } env M := rfl
theorem s_aug {i : Nat} {t : QT} {f : F2} {u : QS} : sSeq (sAug i t f) u D env M = sAug i t f { D with nx := u D } env M := rfl
theorem s_drop {t : QT} {u : QS} : sSeq (sDrop t) u D env M = sDrop t { D with nx := u D } env M := rfl
theorem sWhile_of {c : QB} {b : QS} (I : Nat → Sl → Mem → Prop) (h0 : ∃ m, I m env M) (h : ∀ m env M, I m env M → c env M (fun k M1 => iteB k
    (b { D with nx := fun env' M' => ∃ m', m' < m ∧ I m' env' M', bk := D.nx, ct := fun env' M' => ∃ m', m' < m ∧ I m' env' M' } env M1) (D.nx env M1)) (exE D env)) : sWhile c b D env M := ⟨I, h0, h⟩
theorem forI_of {n : Nat} {at' : Nat → PV → Prop} {st : Mem → Prop} {g : QTG} {b : QS} (I : Nat → Sl → Mem → Prop) (h0 : I 0 env M) (hs : ∀ i env M, i ≤ n → I i env M → st M)
    (h : ∀ i x env M, i < n → at' i x → I i env M → g x env M fun env' M' => b { D with nx := I (i + 1), bk := D.nx, ct := I (i + 1) } env' M') (hn : ∀ env M, I n env M → D.nx env M) : forI n at' st g b D env M := ⟨I, h0, hs, h, hn⟩
def rngP (hi : Int) (g : QTG) (b : QS) (D : QEnds) (env : Sl) (M : Mem) : Prop := (-(2 ^ 62) ≤ hi ∧ hi < 2 ^ 62) ∧ forI hi.toNat (fun i x => x = .int i) (fun _ => True) g b D env M
def rng2P (lo hi : Int) (g : QTG) (b : QS) (D : QEnds) (env : Sl) (M : Mem) : Prop := (-(2 ^ 62) ≤ lo ∧ lo < 2 ^ 62 ∧ -(2 ^ 62) ≤ hi ∧ hi < 2 ^ 62) ∧ forI (hi - lo).toNat (fun i x => x = .int (lo + i)) (fun _ => True) g b D env M
def isR1 (xs : List PV) (A : Int → Prop) : Prop := ∃ hi, xs = [.int hi] ∧ A hi
def isR2 (xs : List PV) (A : Int → Int → Prop) : Prop := ∃ lo hi, xs = [.int lo, .int hi] ∧ A lo hi
theorem isR1_eq {i : Int} {A : Int → Prop} : isR1 [.int i] A = A i := propext ⟨fun ⟨_, h, q⟩ => by cases h; exact q, fun q => ⟨_, rfl, q⟩⟩
theorem isR2_eq {i j : Int} {A : Int → Int → Prop} : isR2 [.int i, .int j] A = A i j := propext ⟨fun ⟨_, _, h, q⟩ => by cases h; exact q, fun q => ⟨_, _, rfl, q⟩⟩
theorem e_sForR1 {t : QA} {g : QTG} {b : QS} : sForR1 t g b D env M = t env M (fun xs M1 => isR1 xs fun hi => rngP hi g b D env M1) (exE D env) := rfl
theorem e_sForR2 {t : QA} {g : QTG} {b : QS} : sForR2 t g b D env M = t env M (fun xs M1 => isR2 xs fun lo hi => rng2P lo hi g b D env M1) (exE D env) := rfl
theorem rngP_of {hi : Int} {g : QTG} {b : QS} (h : -(2 ^ 62) ≤ hi ∧ hi < 2 ^ 62) (I : Nat → Sl → Mem → Prop) (h0 : I 0 env M)
    (hs : ∀ (i : Nat) env M, (i : Int) < hi → I i env M → g (.int i) env M fun env' M' => b { D with nx := I (i + 1), bk := D.nx, ct := I (i + 1) } env' M') (hn : ∀ env M, I hi.toNat env M → D.nx env M) : rngP hi g b D env M :=
  ⟨h, I, h0, fun _ _ _ _ _ => trivial, fun i x env M hi' hx q => by subst hx; exact hs i env M (by omega) q, hn⟩
theorem rng2P_of {lo hi : Int} {g : QTG} {b : QS} (h : -(2 ^ 62) ≤ lo ∧ lo < 2 ^ 62 ∧ -(2 ^ 62) ≤ hi ∧ hi < 2 ^ 62) (I : Nat → Sl → Mem → Prop) (h0 : I 0 env M)
    (hs : ∀ (i : Nat) env M, lo + (i : Int) < hi → I i env M → g (.int (lo + i)) env M fun env' M' => b { D with nx := I (i + 1), bk := D.nx, ct := I (i + 1) } env' M') (hn : ∀ env M, I (hi - lo).toNat env M → D.nx env M) : rng2P lo hi g b D env M :=
  ⟨h, I, h0, fun _ _ _ _ _ => trivial, fun i x env M hi' hx q => by subst hx; exact hs i env M (by omega) q, hn⟩
def forP (x : PV) (g : QTG) (b : QS) (D : QEnds) (env : Sl) (M : Mem) : Prop := match x with
  | .tup xs => forI xs.length (fun i x => xs[i]? = some x) (fun _ => True) g b D env M
  | _ => False
theorem e_sForT {t : QT} {g : QTG} {b : QS} : sForT t g b D env M = t env M (fun x M1 => forP x g b D env M1) (exE D env) := rfl
theorem forP_tup {g : QTG} {b : QS} : forP (.tup xs) g b D env M = forI xs.length (fun i x => xs[i]? = some x) (fun _ => True) g b D env M := rfl
def forLP (x : PV) (g : QTG) (b : QS) (D : QEnds) (env : Sl) (M1 : Mem) : Prop := match x with
  | .lst xs => forI xs.length (fun i x => xs[i]? = some x) (fun _ => True) g b D env M1
  | .scr ns => forI ns.length (fun i x => ∃ n, ns[i]? = some n ∧ x = .int n) (fun _ => True) g b D env M1
  | .ref a => ∃ xs, M1 a = some (.lst xs) ∧ forI xs.length (fun i x => xs[i]? = some x) (fun M => M a = some (.lst xs)) g b D env M1
  | _ => False
theorem e_sForL {t : QT} {g : QTG} {b : QS} : sForL t g b D env M = t env M (fun x M1 => forLP x g b D env M1) (exE D env) := rfl
theorem forLP_ref {a : Addr} {g : QTG} {b : QS} (h : M a = some (.lst xs)) (z : forI xs.length (fun i x => xs[i]? = some x) (fun M => M a = some (.lst xs)) g b D env M) : forLP (.ref a) g b D env M := ⟨xs, h, z⟩
theorem forLP_lst {g : QTG} {b : QS} : forLP (.lst xs) g b D env M = forI xs.length (fun i x => xs[i]? = some x) (fun _ => True) g b D env M := rfl
/-! comprehensions -/
theorem e_qYes {Q : Bool → Mem → Prop} : qYes env M Q E = Q true M := rfl
theorem e_lcEl {tt : QB} {te : QT} {r : Option PV} : lcEl tt te env M r = tt env M (fun b M4 => M4 = M ∧ iteB b (te env M (fun y M5 => M5 = M ∧ r = some y) EF) (r = none)) EF := rfl
theorem e_qLcT {j : Nat} {vs : List Nat} {tl : QT} {tt : QB} {te : QT} : qLcT j vs tl tt te env M Q E = tl env M (fun x M1 => ∃ items, x = .tup items ∧ lcQ items (fun y => some ((wipeQ env vs).set j (some y))) tt te M1 Q) E := rfl
def lcT (x : PV) (vs : List Nat) (j : Nat) (tt : QB) (te : QT) (env : Sl) (M1 : Mem) [Q : Box PK] : Prop := ∃ items, x = .tup items ∧ lcQ items (fun y => some ((wipeQ env vs).set j (some y))) tt te M1 Q.v
def lcL (o : Option (List PV)) (vs : List Nat) (j : Nat) (tt : QB) (te : QT) (env : Sl) (M1 : Mem) [Q : Box PK] : Prop := match o with
  | some items => lcQ items (fun y => some ((wipeQ env vs).set j (some y))) tt te M1 Q.v
  | none => False
theorem e_lcT {j : Nat} {vs : List Nat} {tl : QT} {tt : QB} {te : QT} : qLcT j vs tl tt te env M Q E = tl env M (fun x M1 => @lcT x vs j tt te env M1 ⟨Q⟩) E := rfl
theorem e_lcL {j : Nat} {vs : List Nat} {tl : QT} {tt : QB} {te : QT} : qLcL j vs tl tt te env M Q E = tl env M (fun x M1 => @lcL (sqA M1 x) vs j tt te env M1 ⟨Q⟩) E := rfl
theorem e_lcR1 {j : Nat} {vs : List Nat} {ta : QA} {tt : QB} {te : QT} : qLcR1 j vs ta tt te env M Q E = ta env M (fun xs M1 => isR1 xs fun hi => (-(2 ^ 62) ≤ hi ∧ hi < 2 ^ 62) ∧ @lcL (some ((List.range hi.toNat).map fun i => .int (i : Nat))) vs j tt te env M1 ⟨Q⟩) E := rfl
theorem lcT_of {vs : List Nat} {j : Nat} {tt : QB} {te : QT} {Q : Box PK} (r : PV → Option PV) (hn : xs.length ≤ 100000) (h : ∀ x ∈ xs, ∀ M2, MExt M M2 → lcEl tt te ((wipeQ env vs).set j (some x)) M2 (r x)) (q : Q.v (.lst (xs.filterMap r)) M) : @lcT (.tup xs) vs j tt te env M Q :=
  ⟨xs, rfl, hn, r, fun x hx M2 hM => ⟨_, rfl, h x hx M2 hM⟩, q⟩
theorem lcL_of {vs : List Nat} {j : Nat} {tt : QB} {te : QT} {Q : Box PK} (r : PV → Option PV) (hn : xs.length ≤ 100000) (h : ∀ x ∈ xs, ∀ M2, MExt M M2 → lcEl tt te ((wipeQ env vs).set j (some x)) M2 (r x)) (q : Q.v (.lst (xs.filterMap r)) M) : @lcL (some xs) vs j tt te env M Q :=
  ⟨hn, r, fun x hx M2 hM => ⟨_, rfl, h x hx M2 hM⟩, q⟩
theorem wipe_0 : wipeQ env [] = env := rfl
theorem wipe_1 {v : Nat} {vs : List Nat} : wipeQ env (v :: vs) = (wipeQ env vs).set v none := rfl
/-! kinds -/
theorem isiB_eq {Q : Box PK} {b : Bool} (h : ∀ Q', cIsi K [x, y] M Q' = Q' (.bl b) M) : @isiB K x y M Q = Q.v (.bl b) M := h Q.v
theorem isB_ii {i : Int} {Q : Box PK} : @isiB K (.int i) (.ty "int") M Q = Q.v (.bl true) M := isi_ii
theorem isB_ib {i : Int} {Q : Box PK} : @isiB K (.int i) (.ty "bool") M Q = Q.v (.bl false) M := isi_ib
theorem isB_is {i : Int} {Q : Box PK} : @isiB K (.int i) (.ty "str") M Q = Q.v (.bl false) M := isi_is
theorem isB_it {i : Int} {Q : Box PK} : @isiB K (.int i) (.ty "tuple") M Q = Q.v (.bl false) M := isi_it
theorem isB_bi {i : Bool} {Q : Box PK} : @isiB K (.bl i) (.ty "int") M Q = Q.v (.bl true) M := isi_bi
theorem isB_bb {i : Bool} {Q : Box PK} : @isiB K (.bl i) (.ty "bool") M Q = Q.v (.bl true) M := isi_bb
theorem isB_ss {i : Str} {Q : Box PK} : @isiB K (.str i) (.ty "str") M Q = Q.v (.bl true) M := isi_ss
theorem isB_st {i : Str} {Q : Box PK} : @isiB K (.str i) (.ty "tuple") M Q = Q.v (.bl false) M := isi_st
theorem isB_tt {i : List PV} {Q : Box PK} : @isiB K (.tup i) (.ty "tuple") M Q = Q.v (.bl true) M := isi_tt
theorem isB_nt {Q : Box PK} : @isiB K .non (.ty "tuple") M Q = Q.v (.bl false) M := isi_nt
theorem fldB_own {f : Str} {C : Addr} {ns : List Str} {os : List PV} {Q : Box PK} (o : own M x = some (C, ns, os)) (c : Cls K C) (n : NoAttr K C f) (h : lk f ns os = some y) : @fldB K f x M Q = Q.v y M := fldP_own o c n h
theorem mthB_own {C : Addr} {m : Str} {ns : List Str} {os : List PV} {R : Box Prop} (o : own M x = some (C, ns, os)) (h : m ∉ ns) : @mthB C m x M R = R.v := mthP_own o h
theorem start_eq {N : List Str} : startQ N xs = xs.map some ++ List.replicate (N.length - xs.length) none := rfl
end
end TN

namespace K10
open PySem PySem.Spec PyProof.Rows L2 TQ TM TN
def top (i : Nat) : Stmt := PySem.Challenge.pw_tenreckon_k10_roots.main.body.getD i (.Pass ⟨0, 0, 0, 0⟩)
abbrev s_ten_to : Stmt := (top 2)
abbrev s_count_of : Stmt := (top 1)
abbrev s_root_below : Stmt := (top 4)
abbrev s_Root___init__ : Stmt := (inClass (top 6) 0)
abbrev s_Root_first : Stmt := (inClass (top 6) 1)
abbrev s_Root_at : Stmt := (inClass (top 6) 2)
abbrev s__law_cell_at : Stmt := (top 8)
abbrev s__law_mixed : Stmt := (top 9)
abbrev s__law_ten : Stmt := (top 10)
abbrev s__law_top : Stmt := (top 11)
abbrev s__law_pair : Stmt := (top 12)
abbrev s__law_sides : Stmt := (top 13)
abbrev s__law_first_right : Stmt := (top 14)
abbrev s__law_at_right : Stmt := (top 15)
abbrev s_law : Stmt := (top 16)
theorem sc_ten_to : FnScope ["power", "found", "base", "odd"] ["power"] (defScope s_ten_to) := ⟨rfl, rfl, rfl, by decide +kernel, rfl, by decide +kernel, by decide +kernel⟩
theorem sc_count_of : FnScope ["figures", "many", "bound"] ["figures"] (defScope s_count_of) := ⟨rfl, rfl, rfl, by decide +kernel, rfl, by decide +kernel, by decide +kernel⟩
theorem sc_root_below : FnScope ["number", "found", "other"] ["number"] (defScope s_root_below) := ⟨rfl, rfl, rfl, by decide +kernel, rfl, by decide +kernel, by decide +kernel⟩
theorem sc_Root___init__ : FnScope ["self", "top", "power"] ["self", "top", "power"] (defScope s_Root___init__) := ⟨rfl, rfl, rfl, by decide +kernel, rfl, by decide +kernel, by decide +kernel⟩
theorem sc_Root_first : FnScope ["self"] ["self"] (defScope s_Root_first) := ⟨rfl, rfl, rfl, by decide +kernel, rfl, by decide +kernel, by decide +kernel⟩
theorem sc_Root_at : FnScope ["self", "power", "shift", "top", "bottom", "whole", "middle"] ["self", "power"] (defScope s_Root_at) := ⟨rfl, rfl, rfl, by decide +kernel, rfl, by decide +kernel, by decide +kernel⟩
theorem sc__law_cell_at : FnScope ["_law_script", "_law_k"] ["_law_script", "_law_k"] (defScope s__law_cell_at) := ⟨rfl, rfl, rfl, by decide +kernel, rfl, by decide +kernel, by decide +kernel⟩
theorem sc__law_mixed : FnScope ["_law_cell", "_law_k"] ["_law_cell", "_law_k"] (defScope s__law_mixed) := ⟨rfl, rfl, rfl, by decide +kernel, rfl, by decide +kernel, by decide +kernel⟩
theorem sc__law_ten : FnScope ["_law_count"] ["_law_count"] (defScope s__law_ten) := ⟨rfl, rfl, rfl, by decide +kernel, rfl, by decide +kernel, by decide +kernel⟩
theorem sc__law_top : FnScope ["_law_cell", "_law_size", "_law_more", "_law_some"] ["_law_cell"] (defScope s__law_top) := ⟨rfl, rfl, rfl, by decide +kernel, rfl, by decide +kernel, by decide +kernel⟩
theorem sc__law_pair : FnScope ["_law_found", "_law_one"] ["_law_found"] (defScope s__law_pair) := ⟨rfl, rfl, rfl, by decide +kernel, rfl, by decide +kernel, by decide +kernel⟩
theorem sc__law_sides : FnScope ["_law_top_here", "_law_shift"] ["_law_top_here", "_law_shift"] (defScope s__law_sides) := ⟨rfl, rfl, rfl, by decide +kernel, rfl, by decide +kernel, by decide +kernel⟩
theorem sc__law_first_right : FnScope ["_law_found", "_law_top_here", "_law_ten_here", "_law_high", "_law_low"] ["_law_found", "_law_top_here", "_law_ten_here"] (defScope s__law_first_right) := ⟨rfl, rfl, rfl, by decide +kernel, rfl, by decide +kernel, by decide +kernel⟩
theorem sc__law_at_right : FnScope ["_law_found", "_law_top_here", "_law_shift", "_law_whole", "_law_part", "_law_high", "_law_low", "_law_middle", "_law_due"] ["_law_found", "_law_top_here", "_law_shift"] (defScope s__law_at_right) := ⟨rfl, rfl, rfl, by decide +kernel, rfl, by decide +kernel, by decide +kernel⟩
theorem sc_law : FnScope ["_law_script", "_law_number", "_law_side", "_law_more", "_law_top_here", "_law_far", "_law_ten_here", "_law_exact", "_law_first", "_law_asked", "_law_k", "_law_place", "_law_found", "_law_keyed", "_law_lone", "_law_one"] ["_law_script"] (defScope s_law) := ⟨rfl, rfl, rfl, by decide +kernel, rfl, by decide +kernel, by decide +kernel⟩
abbrev gv_Root_1_power (vs zs : List V) : List V := vs ++ zs
abbrev gP_Root_1_power (xs zs : List PV) : List PV := xs ++ zs
theorem kp_Root_1_power {K : PySem.W.Frag} (G : Hp) (xs zs : List PV) (vs us : List V) (r1 : Reps K G xs vs) (r2 : Reps K G zs us) : Reps K G (gP_Root_1_power xs zs) (gv_Root_1_power vs us) := r1.append r2
/-- what the top has written -/
structure Tx (K : PySem.W.Frag) (mg : Str → Option Value) where
  a_ten_to : Addr
  d_ten_to : FuncData
  a_count_of : Addr
  d_count_of : FuncData
  a_root_below : Addr
  d_root_below : FuncData
  a_Root___init__ : Addr
  d_Root___init__ : FuncData
  a_Root_first : Addr
  d_Root_first : FuncData
  a_Root_at : Addr
  d_Root_at : FuncData
  a__law_cell_at : Addr
  d__law_cell_at : FuncData
  a__law_mixed : Addr
  d__law_mixed : FuncData
  a__law_ten : Addr
  d__law_ten : FuncData
  a__law_top : Addr
  d__law_top : FuncData
  a__law_pair : Addr
  d__law_pair : FuncData
  a__law_sides : Addr
  d__law_sides : FuncData
  a__law_first_right : Addr
  d__law_first_right : FuncData
  a__law_at_right : Addr
  d__law_at_right : FuncData
  a_law : Addr
  d_law : FuncData
  c_Exact : Addr
  c_Root : Addr
  m_ten_to : mg "ten_to" = some (.ref a_ten_to)
  F_ten_to : Fun K "ten_to" "ten_to" s_ten_to a_ten_to d_ten_to
  b_ten_to : Binds K d_ten_to ["power"] []
  m_count_of : mg "count_of" = some (.ref a_count_of)
  F_count_of : Fun K "count_of" "count_of" s_count_of a_count_of d_count_of
  b_count_of : Binds K d_count_of ["figures"] []
  m_root_below : mg "root_below" = some (.ref a_root_below)
  F_root_below : Fun K "root_below" "root_below" s_root_below a_root_below d_root_below
  b_root_below : Binds K d_root_below ["number"] []
  F_Root___init__ : FunD K "__init__" "Root.__init__" (defArgs s_Root___init__) (defBody s_Root___init__) (defScope s_Root___init__) [V.int 0] [] a_Root___init__ d_Root___init__
  F_Root_first : Fun K "first" "Root.first" s_Root_first a_Root_first d_Root_first
  b_Root_first : Binds K d_Root_first ["self"] []
  F_Root_at : Fun K "at" "Root.at" s_Root_at a_Root_at d_Root_at
  b_Root_at : Binds K d_Root_at ["self", "power"] []
  m__law_cell_at : mg "_law_cell_at" = some (.ref a__law_cell_at)
  F__law_cell_at : Fun K "_law_cell_at" "_law_cell_at" s__law_cell_at a__law_cell_at d__law_cell_at
  b__law_cell_at : Binds K d__law_cell_at ["_law_script", "_law_k"] []
  m__law_mixed : mg "_law_mixed" = some (.ref a__law_mixed)
  F__law_mixed : Fun K "_law_mixed" "_law_mixed" s__law_mixed a__law_mixed d__law_mixed
  b__law_mixed : Binds K d__law_mixed ["_law_cell", "_law_k"] []
  m__law_ten : mg "_law_ten" = some (.ref a__law_ten)
  F__law_ten : Fun K "_law_ten" "_law_ten" s__law_ten a__law_ten d__law_ten
  b__law_ten : Binds K d__law_ten ["_law_count"] []
  m__law_top : mg "_law_top" = some (.ref a__law_top)
  F__law_top : Fun K "_law_top" "_law_top" s__law_top a__law_top d__law_top
  b__law_top : Binds K d__law_top ["_law_cell"] []
  m__law_pair : mg "_law_pair" = some (.ref a__law_pair)
  F__law_pair : Fun K "_law_pair" "_law_pair" s__law_pair a__law_pair d__law_pair
  b__law_pair : Binds K d__law_pair ["_law_found"] []
  m__law_sides : mg "_law_sides" = some (.ref a__law_sides)
  F__law_sides : Fun K "_law_sides" "_law_sides" s__law_sides a__law_sides d__law_sides
  b__law_sides : Binds K d__law_sides ["_law_top_here", "_law_shift"] []
  m__law_first_right : mg "_law_first_right" = some (.ref a__law_first_right)
  F__law_first_right : Fun K "_law_first_right" "_law_first_right" s__law_first_right a__law_first_right d__law_first_right
  b__law_first_right : Binds K d__law_first_right ["_law_found", "_law_top_here", "_law_ten_here"] []
  m__law_at_right : mg "_law_at_right" = some (.ref a__law_at_right)
  F__law_at_right : Fun K "_law_at_right" "_law_at_right" s__law_at_right a__law_at_right d__law_at_right
  b__law_at_right : Binds K d__law_at_right ["_law_found", "_law_top_here", "_law_shift"] []
  m_law : mg "law" = some (.ref a_law)
  F_law : Fun K "law" "law" s_law a_law d_law
  b_law : Binds K d_law ["_law_script"] []
  m_Exact : mg "Exact" = some (.ref c_Exact)
  m_Root : mg "Root" = some (.ref c_Root)
  i_Root : ClsI K c_Root
  mk_Root : Mk K c_Root a_Root___init__
  no_Root_square : NoAttr K c_Root "square"
  no_Root_scale : NoAttr K c_Root "scale"
  n_all : mg "all" = none
  n_bool : mg "bool" = none
  n_divmod : mg "divmod" = none
  n_int : mg "int" = none
  n_isinstance : mg "isinstance" = none
  n_len : mg "len" = none
  n_max : mg "max" = none
  n_range : mg "range" = none
  n_tuple : mg "tuple" = none
  b_Root_1 : ∃ ds, Vals [V.int 0] ds ∧ Binds K d_Root___init__ ["self", "top", "power"] ds
  b_Root_2 : ∃ ds, Vals [] ds ∧ Binds K d_Root___init__ ["self", "top", "power"] ds
  kb_Root_1_power : ∃ gg, KBn K d_Root___init__ ["self", "top", "power"] (1 + 1) ["power"] gg fun vs zs => vs.take 1 ++ gv_Root_1_power (vs.drop 1) zs
  M_Root_at : Meth K c_Root "at" a_Root_at
  M_Root_first : Meth K c_Root "first" a_Root_first
  isi_Root_Exact : PySem.W.kitOne K (.ref c_Root) (.ref c_Exact) = some true
abbrev ns_Root : List Str := ["square", "scale"]
theorem fld_Root_square {K : PySem.W.Frag} {mg : Str → Option Value} (T : Tx K mg) {o_square o_scale : PV} {M : Mem} {Q : Box PK} : @fldB K "square" (.obj T.c_Root ns_Root [o_square, o_scale]) M Q = Q.v o_square M := fldB_own rfl T.i_Root.cl T.no_Root_square (by simp (decide := true) [lk])
theorem fld_Root_scale {K : PySem.W.Frag} {mg : Str → Option Value} (T : Tx K mg) {o_square o_scale : PV} {M : Mem} {Q : Box PK} : @fldB K "scale" (.obj T.c_Root ns_Root [o_square, o_scale]) M Q = Q.v o_scale M := fldB_own rfl T.i_Root.cl T.no_Root_scale (by simp (decide := true) [lk])
theorem mth_Root_at {K : PySem.W.Frag} {mg : Str → Option Value} (T : Tx K mg) {os : List PV} {M : Mem} {R : Box Prop} : @mthB T.c_Root "at" (.obj T.c_Root ns_Root os) M R = R.v := mthB_own rfl (by decide)
theorem mth_Root_first {K : PySem.W.Frag} {mg : Str → Option Value} (T : Tx K mg) {os : List PV} {M : Mem} {R : Box Prop} : @mthB T.c_Root "first" (.obj T.c_Root ns_Root os) M R = R.v := mthB_own rfl (by decide)
theorem isi_Root_Exact {K : PySem.W.Frag} {mg : Str → Option Value} (T : Tx K mg) {ns : List Str} {xs : List PV} {M : Mem} {Q : Box PK} : @isiB K (.obj T.c_Root ns xs) (.ref T.c_Exact) M Q = Q.v (.bl true) M := isiP rfl T.i_Root rfl T.isi_Root_Exact
/-! ### short words of this text -/
local macro_rules | `(tactic| walk_at "q") => `(tactic| simp (config := { maxSteps := 1000000 }) only [↓e_qVar, ↓e_qC, ↓e_q2, ↓e_qTst, ↓e_qAnd, ↓e_qOr, ↓e_qNot, ↓e_qAndV, ↓e_qOrV, ↓e_qNotV, ↓e_qIf, ↓e_qNil, ↓e_qCons, ↓e_qTup, ↓e_qLst, ↓e_qLstM, ↓tup_0, ↓tup_1, ↓tup_2, ↓tup_3, ↓tup_4, ↓tup_5, ↓lis_0, ↓lis_1, ↓lis_2, ↓lis_3, ↓lis_4, ↓lis_5, ↓lis_6, ↓lis_7, ↓lis_8, ↓e_qCB, ↓e_cLen, ↓e_cMax, ↓e_cMin, ↓e_cAbs, ↓e_cInt_i, ↓e_cInt_d, ↓e_cInt_nd, ↓e_qBits2, ↓e_cInt_s, ↓e_cStr, ↓e_cDivmod, ↓e_cIsi, ↓e_qNeg, ↓e_qSl, ↓e_qoNone, ↓e_qoSome, ↓e_qCall, ↓e_qFld, ↓e_qMeth, ↓e_qMake, ↓e_qMakeK, ↓e_qOrC, ↓e_qTru, ↓e_qChain, ↓e_qApp, ↓b_add_i, ↓b_add_s, ↓b_add_l, ↓b_sub, ↓b_mul_i, ↓b_mul_s, ↓b_div, ↓b_mod, ↓b_pow, ↓b_lt, ↓b_le, ↓b_gt, ↓b_ge, ↓i_add_i, ↓i_add_s, ↓i_mul_i, ↓xi_lst, ↓xi_scr, ↓xi_tup, ↓xi_mset, ↓e_sNext, ↓e_sSeq, ↓e_sRet, ↓e_sDrop, ↓e_sIf, ↓e_sAsg, ↓e_sAug, ↓e_sBreak, ↓e_sCont, ↓e_gNm, ↓e_gTu, ↓e_gsNil, ↓e_gsCons, ↓e_sForR1, ↓e_sForR2, ↓e_sForT, ↓e_sForL, ↓e_qYes, ↓e_lcEl, ↓e_lcT, ↓e_lcL, ↓e_lcR1,
  lsm_eq, vP_some, ixP_some, nxP_eq, box_v, iteP_true, iteP_false, iteB_dec, iteB_t, iteB_f, iteB_not, iteB_beq, iteB_bne, blP_bl, intP_int, truP_int, truP_bl, truP_non, if_int, app1_mset, app2_mset, at_0, at_1, at_2, at_3, isR1_eq, isR2_eq, forP_tup, forLP_lst, wipe_0, wipe_1, isB_ii, isB_ib, isB_is, isB_it, isB_bi, isB_bb, isB_ss, isB_st, isB_tt, isB_nt,
  fld_Root_square, fld_Root_scale, mth_Root_at, mth_Root_first, isi_Root_Exact, bEq_int, bNe_int, bEq_str, bNe_str, bEq_bl, bNe_bl, len_scr, len_lst, len_tup, len_mset, bIx_mset, sqA_scr, sqA_lst, sqA_mset, mset_same, mset_mset, start_eq, List.map_cons, List.map_nil, List.length_cons, List.length_nil, List.replicate, List.cons_append, List.nil_append, List.append_nil, Nat.reduceAdd, Nat.reduceSub, List.getElem?_cons_zero, List.getElem?_cons_succ, List.set_cons_zero, List.set_cons_succ,
  Int.reduceLT, Int.reduceLE, Int.reduceEq, Int.reduceNeg, dec_t, dec_f, c_0, c_1, c_2, c_3, c_4, Bool.not_true, Bool.not_false, Nat.reduceEqDiff, eq_self, true_and, and_true, reduceCtorEq, bEq_nil, bNe_pair, makP_2, makP_3, makP_4])
local macro_rules | `(tactic| walk_at "s") => `(tactic| simp (config := { maxSteps := 1000000 }) only [↓e_qVar, ↓e_qC, ↓e_q2, ↓e_qTst, ↓e_qAnd, ↓e_qOr, ↓e_qNot, ↓e_qAndV, ↓e_qOrV, ↓e_qNotV, ↓e_qIf, ↓e_qNil, ↓e_qCons, ↓e_qTup, ↓e_qLst, ↓e_qLstM, ↓tup_0, ↓tup_1, ↓tup_2, ↓tup_3, ↓tup_4, ↓tup_5, ↓lis_0, ↓lis_1, ↓lis_2, ↓lis_3, ↓lis_4, ↓lis_5, ↓lis_6, ↓lis_7, ↓lis_8, ↓e_qCB, ↓e_cLen, ↓e_cMax, ↓e_cMin, ↓e_cAbs, ↓e_cInt_i, ↓e_cInt_d, ↓e_cInt_nd, ↓e_qBits2, ↓e_cInt_s, ↓e_cStr, ↓e_cDivmod, ↓e_cIsi, ↓e_qNeg, ↓e_qSl, ↓e_qoNone, ↓e_qoSome, ↓e_qCall, ↓e_qFld, ↓e_qMeth, ↓e_qMake, ↓e_qMakeK, ↓e_qOrC, ↓e_qTru, ↓e_qChain, ↓e_qApp, ↓b_add_i, ↓b_add_s, ↓b_add_l, ↓b_sub, ↓b_mul_i, ↓b_mul_s, ↓b_div, ↓b_mod, ↓b_pow, ↓b_lt, ↓b_le, ↓b_gt, ↓b_ge, ↓i_add_i, ↓i_add_s, ↓i_mul_i, ↓xi_lst, ↓xi_scr, ↓xi_tup, ↓xi_mset, ↓e_sNext, ↓s_asg, ↓s_aug, ↓s_drop, ↓e_sRet, ↓e_sDrop, ↓e_sIf, ↓e_sAsg, ↓e_sAug, ↓e_sBreak, ↓e_sCont, ↓e_gNm, ↓e_gTu, ↓e_gsNil, ↓e_gsCons, ↓e_sForR1, ↓e_sForR2, ↓e_sForT, ↓e_sForL, ↓e_qYes, ↓e_lcEl, ↓e_lcT, ↓e_lcL, ↓e_lcR1,
  lsm_eq, vP_some, ixP_some, nxP_eq, box_v, iteP_true, iteP_false, iteB_dec, iteB_t, iteB_f, iteB_not, iteB_beq, iteB_bne, blP_bl, intP_int, truP_int, truP_bl, truP_non, if_int, app1_mset, app2_mset, at_0, at_1, at_2, at_3, isR1_eq, isR2_eq, forP_tup, forLP_lst, wipe_0, wipe_1, isB_ii, isB_ib, isB_is, isB_it, isB_bi, isB_bb, isB_ss, isB_st, isB_tt, isB_nt,
  fld_Root_square, fld_Root_scale, mth_Root_at, mth_Root_first, isi_Root_Exact, bEq_int, bNe_int, bEq_str, bNe_str, bEq_bl, bNe_bl, len_scr, len_lst, len_tup, len_mset, bIx_mset, sqA_scr, sqA_lst, sqA_mset, mset_same, mset_mset, start_eq, List.map_cons, List.map_nil, List.length_cons, List.length_nil, List.replicate, List.cons_append, List.nil_append, List.append_nil, Nat.reduceAdd, Nat.reduceSub, List.getElem?_cons_zero, List.getElem?_cons_succ, List.set_cons_zero, List.set_cons_succ,
  Int.reduceLT, Int.reduceLE, Int.reduceEq, Int.reduceNeg, dec_t, dec_f, c_0, c_1, c_2, c_3, c_4, Bool.not_true, Bool.not_false, Nat.reduceEqDiff, eq_self, true_and, and_true, reduceCtorEq, bEq_nil, bNe_pair, makP_2, makP_3, makP_4])
local macro_rules | `(tactic| mul_fits) => `(tactic| first | exact mul_ok_l (by decide) (by decide) | exact mul_ok_r (by decide) (by decide) | exact mul_ok_l (by omega) (by omega) | exact mul_ok_r (by omega) (by omega) | exact divw (n := 63) (by decide) (by decide))

/-- a cell of the script -/
def cell (ns : List Int) (k : Int) : Int := ns.getD k.toNat 0
theorem cell_at {ns : List Int} {k : Int} (h : 0 ≤ k) (h1 : k < (ns.map PV.int).length) : atI (ns.map PV.int) k = some (.int (cell ns k)) := by
  rw [List.length_map] at h1
  have : k.toNat < ns.length := by omega
  rw [atI_in h (by rw [List.length_map]; exact h1), List.getElem?_map, List.getElem?_eq_getElem this]
  unfold cell
  rw [List.getD_eq_getElem?_getD, List.getElem?_eq_getElem this]
  rfl
theorem cell_no {ns : List Int} {k : Int} (h : 0 ≤ k) (h1 : ¬ k < (ns.map PV.int).length) : cell ns k = 0 := by
  rw [List.length_map] at h1
  unfold cell
  rw [List.getD_eq_getElem?_getD, List.getElem?_eq_none (by omega)]
  rfl
def mixed (c k : Int) : Int := (c * (48271 + 2 * k * k) + 69621 * k + 11) % 2147483647 * 69621 % 2147483629
theorem mixed_range (c k : Int) : 0 ≤ mixed c k ∧ mixed c k < 2147483629 := ⟨Int.emod_nonneg _ (by decide), Int.emod_lt_of_pos _ (by decide)⟩

/-- which part a rest is -/
def prt (r b : Nat) : Nat := if r = 0 then 0 else if 2 * r < b then 1 else if 2 * r = b then 2 else 3
theorem prt_eq (r b : Nat) (h : r ≠ 0) : (2 : Int) + (if (b : Int) < 2 * (r : Int) then 1 else 0) - (if 2 * (r : Int) < (b : Int) then 1 else 0) = (prt r b : Int) := by
  unfold prt
  rw [if_neg h]
  by_cases h1 : 2 * r < b
  · rw [if_pos h1, if_neg (by omega), if_pos (by omega)]; rfl
  · by_cases h2 : 2 * r = b
    · rw [if_neg h1, if_pos h2, if_neg (by omega), if_neg (by omega)]; rfl
    · rw [if_neg h1, if_neg h2, if_pos (by omega), if_neg (by omega)]; rfl
theorem prt_sum (r b : Nat) (h : r < b) : (if (0 : Int) < (r : Int) then (1 : Int) else 0) + (if (b : Int) ≤ 2 * (r : Int) then 1 else 0) + (if (b : Int) < 2 * (r : Int) then 1 else 0) = (prt r b : Int) := by
  unfold prt
  by_cases h0 : r = 0
  · rw [if_pos h0, if_neg (by omega), if_neg (by omega), if_neg (by omega)]; rfl
  · rw [if_neg h0, if_pos (by omega)]
    by_cases h1 : 2 * r < b
    · rw [if_pos h1, if_neg (by omega), if_neg (by omega)]; rfl
    · by_cases h2 : 2 * r = b
      · rw [if_neg h1, if_pos h2, if_pos (by omega), if_neg (by omega)]; rfl
      · rw [if_neg h1, if_neg h2, if_pos (by omega), if_pos (by omega)]; rfl
theorem prt_le (r b : Nat) : prt r b ≤ 3 := by
  unfold prt
  split
  · decide
  · split
    · decide
    · split <;> decide
theorem at_self {n : Nat} (h : n ≤ 3) : atI [PV.int 0, PV.int 1, PV.int 2, PV.int 3] (n : Int) = some (.int n) := by
  match n, h with
  | 0, _ => rfl
  | 1, _ => rfl
  | 2, _ => rfl
  | 3, _ => rfl
/-- top and bottom, moved by so many places -/
def sideH (t : Nat) (s : Int) : Nat := t * 10 ^ s.toNat
def sideL (b : Nat) (s : Int) : Nat := b * 10 ^ (-s).toNat
theorem sideL_pos {b : Nat} (h : 1 ≤ b) (s : Int) : 0 < sideL b s := Nat.mul_pos h (ten_pos _)
theorem side_le {t b : Nat} {s N : Int} (h0 : 0 ≤ N) (h : 0 ≤ N + s) : sideL b s ≤ sideH t s ↔ b * 10 ^ N.toNat ≤ t * 10 ^ (N + s).toNat := by
  unfold sideL sideH
  rcases Int.le_total 0 s with z | z
  · have e1 : (-s).toNat = 0 := by omega
    have e2 : (N + s).toNat = s.toNat + N.toNat := by omega
    rw [e1, e2, Nat.pow_zero, Nat.mul_one, Nat.pow_add, ← Nat.mul_assoc]
    exact (Nat.mul_le_mul_right_iff (ten_pos _)).symm
  · have e1 : s.toNat = 0 := by omega
    have e2 : N.toNat = (-s).toNat + (N + s).toNat := by omega
    rw [e1, e2, Nat.pow_zero, Nat.mul_one, Nat.pow_add, ← Nat.mul_assoc]
    exact (Nat.mul_le_mul_right_iff (ten_pos _)).symm
theorem side_ten {t b : Nat} {s : Int} : (sideH t s < 10 * sideL b s) ↔ sideH t (s - 1) < sideL b (s - 1) := by
  unfold sideL sideH
  by_cases z : 1 ≤ s
  · have e1 : (-s).toNat = 0 := by omega
    have e2 : (-(s - 1)).toNat = 0 := by omega
    have e3 : s.toNat = (s - 1).toNat + 1 := by omega
    have e4 : t * 10 ^ ((s - 1).toNat + 1) = (t * 10 ^ (s - 1).toNat) * 10 := by rw [Nat.pow_succ, Nat.mul_assoc]
    rw [e1, e2, e3, e4, Nat.pow_zero, Nat.mul_one]
    generalize t * 10 ^ (s - 1).toNat = z
    omega
  · have e1 : s.toNat = 0 := by omega
    have e2 : (s - 1).toNat = 0 := by omega
    have e3 : (-(s - 1)).toNat = (-s).toNat + 1 := by omega
    have e4 : b * 10 ^ ((-s).toNat + 1) = (b * 10 ^ (-s).toNat) * 10 := by rw [Nat.pow_succ, Nat.mul_assoc]
    rw [e1, e2, e3, e4, Nat.pow_zero, Nat.mul_one]
    generalize b * 10 ^ (-s).toNat = z
    omega
theorem side_bits {t k : Nat} {s : Int} {n : Nat} (h : t < 10 ^ k) (hs : s ≤ n) : sideH t s < 10 ^ (k + n) := by
  unfold sideH
  rw [Nat.pow_add]
  exact Nat.mul_lt_mul_of_lt_of_le h (pow10_le (by omega)) (ten_pos _)
theorem sideL_bits {b k : Nat} {s : Int} {n : Nat} (h : b < 10 ^ k) (hs : -s ≤ n) : sideL b s < 10 ^ (k + n) := side_bits (s := -s) h hs
/-- the power of the first figure of t / b -/
def fst (t b : Nat) : Int := if sideH t (-((nd t : Int) - nd b)) < sideL b (-((nd t : Int) - nd b)) then (nd t : Int) - nd b - 1 else (nd t : Int) - nd b
theorem fst_spec {t b : Nat} (ht : 1 ≤ t) (hb : 1 ≤ b) : sideL b (-fst t b) ≤ sideH t (-fst t b) ∧ sideH t (-fst t b) < 10 * sideL b (-fst t b) := by
  have t1 := nd_lt t
  have t2 := nd_le ht
  have b1 := nd_lt b
  have b2 := nd_le hb
  have tp := nd_pos t
  have bp := nd_pos b
  rw [side_ten]
  unfold fst
  generalize nd t = x at *
  generalize nd b = y at *
  split
  · rename_i h
    refine ⟨?_, by rw [show (-((x : Int) - y - 1) - 1) = -((x : Int) - y) by omega]; exact h⟩
    rw [side_le (N := x + y) (by omega) (by omega), show ((x : Int) + y).toNat = x + y by omega, show ((x : Int) + y + -((x : Int) - y - 1)).toNat = y + y + 1 by omega]
    have e1 : b * 10 ^ (x + y) ≤ 10 ^ y * 10 ^ (x + y) := Nat.mul_le_mul_right _ (Nat.le_of_lt b1)
    have e2 : 10 ^ (x - 1) * 10 ^ (y + y + 1) ≤ t * 10 ^ (y + y + 1) := Nat.mul_le_mul_right _ t2
    rw [← Nat.pow_add] at e1 e2
    rw [show x - 1 + (y + y + 1) = y + (x + y) by omega] at e2
    omega
  · rename_i h
    refine ⟨Nat.not_lt.mp h, ?_⟩
    refine Nat.not_le.mp fun z => ?_
    rw [side_le (N := x + y + 1) (by omega) (by omega), show ((x : Int) + y + 1).toNat = x + y + 1 by omega, show ((x : Int) + y + 1 + (-((x : Int) - y) - 1)).toNat = y + y by omega] at z
    have e1 : t * 10 ^ (y + y) < 10 ^ x * 10 ^ (y + y) := Nat.mul_lt_mul_of_pos_right t1 (ten_pos _)
    have e2 : 10 ^ (y - 1) * 10 ^ (x + y + 1) ≤ b * 10 ^ (x + y + 1) := Nat.mul_le_mul_right _ b2
    rw [← Nat.pow_add] at e1 e2
    rw [show y - 1 + (x + y + 1) = x + (y + y) by omega] at e2
    omega
theorem fst_range {t b k l : Nat} (hk : 1 ≤ k) (hl : 1 ≤ l) (ht : t < 10 ^ k) (hb : b < 10 ^ l) : -(l : Int) ≤ fst t b ∧ fst t b < k := by
  have h1 := nd_le_of hk ht
  have h2 := nd_le_of hl hb
  have := nd_pos t
  have := nd_pos b
  unfold fst
  split <;> omega

/-- the whole root -/
def isq : Nat → Nat
  | 0 => 0
  | n + 1 => if (isq n + 1) * (isq n + 1) ≤ n + 1 then isq n + 1 else isq n
theorem isq_spec : ∀ n, isq n * isq n ≤ n ∧ n < (isq n + 1) * (isq n + 1)
  | 0 => ⟨by decide, by decide⟩
  | n + 1 => by
    obtain ⟨h1, h2⟩ := isq_spec n
    unfold isq
    split
    · rename_i h
      refine ⟨h, ?_⟩
      have e : (isq n + 1 + 1) * (isq n + 1 + 1) = (isq n + 1) * (isq n + 1) + 2 * (isq n + 1) + 1 := by
        generalize isq n + 1 = r
        rw [Nat.add_mul, Nat.mul_add]
        omega
      omega
    · omega
theorem sq_le {a b : Nat} (h : a ≤ b) : a * a ≤ b * b := Nat.mul_le_mul h h
theorem sq_lt {a b : Nat} (h : a < b) : a * a < b * b := Nat.mul_lt_mul_of_le_of_lt (Nat.le_of_lt h) h (by omega)
theorem sq_lt_inv {a b : Nat} (h : a * a < b * b) : a < b := by
  rcases Nat.lt_or_ge a b with z | z
  · exact z
  · exact absurd (sq_le z) (by omega)
theorem isq_of {n r : Nat} (h1 : r * r ≤ n) (h2 : n < (r + 1) * (r + 1)) : isq n = r := by
  obtain ⟨a, b⟩ := isq_spec n
  have := sq_lt_inv (Nat.lt_of_le_of_lt a h2)
  have := sq_lt_inv (Nat.lt_of_le_of_lt h1 b)
  omega
theorem isq_le (n : Nat) : isq n ≤ n := by
  obtain ⟨a, _⟩ := isq_spec n
  have : isq n * 1 ≤ isq n * isq n ∨ isq n = 0 := by
    rcases Nat.eq_zero_or_pos (isq n) with z | z
    · exact .inr z
    · exact .inl (Nat.mul_le_mul_left _ z)
  omega
/-- Newton's step stays above the root -/
theorem newton {n f r : Nat} (hr : r * r ≤ n) (hf : r ≤ f) (h0 : 0 < f) : r ≤ (f + n / f) / 2 := by
  rcases Nat.lt_or_ge ((f + n / f) / 2) r with z | z
  · exfalso
    obtain ⟨d, rfl⟩ := Nat.exists_eq_add_of_le hf
    have hq : n / (r + d) < r - d ∧ d < r := by
      generalize n / (r + d) = q at z
      omega
    obtain ⟨hq, hd⟩ := hq
    obtain ⟨e, rfl⟩ : ∃ e, r = d + e := ⟨r - d, by omega⟩
    rw [show d + e - d = e by omega] at hq
    have h1 : n < (d + e + d) * e := by
      rw [Nat.mul_comm]
      exact (Nat.div_lt_iff_lt_mul h0).mp hq
    have e1 : (d + e) * (d + e) = d * d + (d + e + d) * e := by
      simp only [Nat.add_mul, Nat.mul_add, Nat.mul_comm]
      omega
    have := Nat.zero_le (d * d)
    omega
  · exact z
theorem newton_end {n f r : Nat} (hr : n < (r + 1) * (r + 1)) (hf : r ≤ f) (h0 : 0 < f) (h : f ≤ (f + n / f) / 2) : f = r := by
  have h1 : f ≤ n / f := by omega
  have h2 : f * f ≤ n := by
    have := Nat.mul_le_of_le_div f f n h1
    exact this
  have := sq_lt_inv (Nat.lt_of_le_of_lt h2 hr)
  omega
/-- the part of a root -/
def rprt (w H L : Nat) : Nat := if w * w * L = H then 0 else if 4 * H < (2 * w + 1) * (2 * w + 1) * L then 1 else if 4 * H = (2 * w + 1) * (2 * w + 1) * L then 2 else 3
def rfst (t : Nat) (s : Int) : Int := ((nd t : Int) - 1 + s) / 2
/-- a Root -/
abbrev roo (C : Addr) (t : Nat) (s : Int) : PV := .obj C ns_Root [.int t, .int s]
theorem rprt_eq {w H L : Nat} (h : ¬ w * w * L = H) : (2 : Int) + (if ((2 * w + 1) * (2 * w + 1) * L : Nat) < 4 * (H : Int) then 1 else 0) - (if 4 * (H : Int) < ((2 * w + 1) * (2 * w + 1) * L : Nat) then 1 else 0) = (rprt w H L : Int) := by
  unfold rprt
  rw [if_neg h]
  generalize (2 * w + 1) * (2 * w + 1) * L = m
  by_cases h1 : 4 * H < m
  · rw [if_pos h1, if_neg (by omega), if_pos (by omega)]; rfl
  · by_cases h2 : 4 * H = m
    · rw [if_neg h1, if_pos h2, if_neg (by omega), if_neg (by omega)]; rfl
    · rw [if_neg h1, if_neg h2, if_pos (by omega), if_neg (by omega)]; rfl
theorem rprt_sum {w H L : Nat} (h : ¬ w * w * L = H) : (1 : Int) + (if ((2 * w + 1) * (2 * w + 1) * L : Nat) ≤ 4 * (H : Int) then 1 else 0) + (if ((2 * w + 1) * (2 * w + 1) * L : Nat) < 4 * (H : Int) then 1 else 0) = (rprt w H L : Int) := by
  unfold rprt
  rw [if_neg h]
  generalize (2 * w + 1) * (2 * w + 1) * L = m
  by_cases h1 : 4 * H < m
  · rw [if_pos h1, if_neg (by omega), if_neg (by omega)]; rfl
  · by_cases h2 : 4 * H = m
    · rw [if_neg h1, if_pos h2, if_pos (by omega), if_neg (by omega)]; rfl
    · rw [if_neg h1, if_neg h2, if_pos (by omega), if_pos (by omega)]; rfl
theorem rfst_spec {t : Nat} (s : Int) (h : 1 ≤ t) : sideL 1 (s - 2 * rfst t s) ≤ sideH t (s - 2 * rfst t s) ∧ sideH t (s - 2 * rfst t s) < 100 * sideL 1 (s - 2 * rfst t s) := by
  have t1 := nd_lt t
  have t2 := nd_le h
  have tp := nd_pos t
  unfold rfst
  generalize nd t = d at *
  obtain ⟨x, hx⟩ : ∃ x : Int, x = s - 2 * (((d : Int) - 1 + s) / 2) := ⟨_, rfl⟩
  rw [← hx]
  unfold sideL sideH
  have hx2 : x = -((d : Int) - 1) ∨ x = -((d : Int) - 1) + 1 := by omega
  rcases Int.le_total x 0 with z | z
  · have e1 : x.toNat = 0 := by omega
    rw [e1, Nat.pow_zero, Nat.mul_one, Nat.one_mul]
    have a := pow10_le (m := (-x).toNat) (n := d - 1) (by omega)
    have b := pow10_le (m := d) (n := (-x).toNat + 2) (by omega)
    rw [Nat.pow_add] at b
    omega
  · have e1 : (-x).toNat = 0 := by omega
    have hd : d = 1 ∨ d = 2 := by omega
    rw [e1, Nat.pow_zero, Nat.one_mul]
    rcases hd with rfl | rfl
    · have : x.toNat = 0 ∨ x.toNat = 1 := by omega
      rcases this with e | e <;> rw [e] <;> omega
    · have : x.toNat = 0 := by omega
      rw [this]
      omega
theorem roots_between {H L : Nat} (hL : 0 < L) : isq (H / L) * isq (H / L) * L ≤ H ∧ H < (isq (H / L) + 1) * (isq (H / L) + 1) * L := by
  obtain ⟨a, b⟩ := isq_spec (H / L)
  have h1 := Nat.mul_le_mul_right L a
  have h2 := Nat.div_mul_le_self H L
  have h3 : H < (H / L + 1) * L := by
    rw [Nat.add_mul, Nat.one_mul, Nat.mul_comm]
    have := Nat.div_add_mod H L
    have := Nat.mod_lt H hL
    omega
  have h4 : (H / L + 1) * L ≤ (isq (H / L) + 1) * (isq (H / L) + 1) * L := Nat.mul_le_mul_right L b
  omega

section
variable {P : Program} {w : World} {K : PySem.W.Frag} {mg : Str → Option Value} {base : Heap}
/-! ten_to -/
def sp_ten_to : SpQ := fun xs M Q _ => ∃ n : Int, xs = [.int n] ∧ n ≤ 5000 ∧ Q (.int ((10 ^ n.toNat : Nat) : Int)) M
theorem sp_ten_to_len : ∀ xs M Q E, sp_ten_to xs M Q E → xs.length = 1 := fun xs M Q E ⟨_, h, _⟩ => by rw [h]; rfl
theorem ok_ten_to (T : Tx K mg) : FnQ P w K mg base 1 T.a_ten_to T.d_ten_to ["power"] sp_ten_to := by
  refine okQ T.F_ten_to sc_ten_to sp_ten_to_len (fun cdv A outer s0 H0 E hr => ?_)
  have tk := takes_of (X := cxOf (L2.CX P w) P w K mg base ["power", "found", "base", "odd"] "ten_to" (defScope s_ten_to) T.a_ten_to cdv A outer s0 H0 E) (E := E) rfl rfl rfl rfl
  have po := passes_of (X := cxOf (L2.CX P w) P w K mg base ["power", "found", "base", "odd"] "ten_to" (defScope s_ten_to) T.a_ten_to cdv A outer s0 H0 E) rfl
  refine ⟨_, (qss_cons (qs_set 1 sc_ten_to.nd qe_int)
  (qss_cons (qs_set 2 sc_ten_to.nd qe_int)
  (qss_cons (qs_while po (qt_cmp oq_gt (qv 0) qe_int)
  (qss_cons (qs_asg (qe_callB (id := "divmod") cq_divmod T.n_divmod (qa_cons (qv 0) (qa_cons qe_int qa_nil))) (qg_tup (n := 2) rfl (qgs_cons (qg_name (i := 0) sc_ten_to.nd) (qgs_cons (qg_name (i := 3) sc_ten_to.nd) qgs_nil))))
  (qss_cons (qs_if (qt_cmp (oq_eq hr.units) (qv 3) qe_int)
  (qss_one (qs_aug 1 sc_ten_to.nd iq_mul (qv 2)))
  qss_nil)
  (qss_one (qs_aug 2 sc_ten_to.nd iq_mul (qv 2))))))
  (qss_one (qs_ret (qv 1)))))), ?_⟩
  clear tk po
  clear hr
  rintro xs M Q E ⟨n, rfl, hn, k⟩
  walk_at "q"
  refine sWhile_of (fun m env M' => ∃ (p : Int) (g e : Nat) (o : Option PV), env = [some (.int p), some (.int ((10 ^ g : Nat) : Int)), some (.int ((10 ^ e : Nat) : Int)), o] ∧ M' = M ∧ g + e * p.toNat = n.toNat ∧ p.toNat ≤ n.toNat ∧ m = p.toNat) ⟨_, n, 0, 1, none, by simp, rfl, by omega, by omega, rfl⟩ ?_
  rintro m env M' ⟨p, g, e, o, rfl, rfl, hp, hpn, rfl⟩
  walk_at "q"
  by_cases h0 : p ≤ 0
  · have z : p.toNat = 0 := by omega
    rw [z, Nat.mul_zero] at hp
    refine iteP_f (by omega) ?_
    walk_at "q"
    rw [show g = n.toNat by omega]
    exact k
  · obtain ⟨m, rfl⟩ : ∃ m : Nat, p = m := ⟨p.toNat, by omega⟩
    rw [Int.toNat_natCast] at hp hpn
    have he : e * 1 ≤ e * m := Nat.mul_le_mul_left e (by omega)
    have hg : e * (m / 2) + e * (m / 2) + e * (m % 2) = e * m := by rw [← Nat.mul_add, ← Nat.mul_add]; congr 1; omega
    have hz : IntMulOk ((10 ^ e : Nat) : Int) ((10 ^ e : Nat) : Int) := mul_ok_nat (pow10_16 e) (pow10_16 e) (by omega)
    have hz2 : IntMulOk ((10 ^ g : Nat) : Int) ((10 ^ e : Nat) : Int) := mul_ok_nat (pow10_16 g) (pow10_16 e) (by omega)
    refine iteP_t (by omega) ?_
    walk_at "q"
    refine ⟨divp (n := 2) (by decide) (by decide), ?_⟩
    have sq : ((10 ^ e : Nat) : Int) * ((10 ^ e : Nat) : Int) = ((10 ^ (e + e) : Nat) : Int) := by rw [Nat.pow_add, Int.natCast_mul]
    have gq : ((10 ^ g : Nat) : Int) * ((10 ^ e : Nat) : Int) = ((10 ^ (g + e) : Nat) : Int) := by rw [Nat.pow_add, Int.natCast_mul]
    have dv : (m : Int) / 2 = ((m / 2 : Nat) : Int) := by omega
    have dd : (e + e) * (m / 2) = e * (m / 2) + e * (m / 2) := Nat.add_mul e e _
    rw [sq, gq, dv, Int.toNat_natCast]

    refine iteP_of (fun h1 => ?_) (fun h1 => ?_)
    · walk_at "q"
      refine ⟨hz2, hz, m / 2, by omega, ((m / 2 : Nat) : Int), g + e, e + e, _, rfl, ?_, by omega, by omega⟩
      have e1 : m % 2 = 1 := by omega
      rw [e1, Nat.mul_one] at hg
      rw [Int.toNat_natCast]
      omega
    · walk_at "q"
      refine ⟨hz, m / 2, by omega, ((m / 2 : Nat) : Int), g, e + e, _, rfl, ?_, by omega, by omega⟩
      have e1 : m % 2 = 0 := by omega
      rw [e1, Nat.mul_zero] at hg
      rw [Int.toNat_natCast]
      omega

/-! count_of -/
def sp_count_of : SpQ := fun xs M Q _ => ∃ n : Nat, xs = [.int n] ∧ n < 10 ^ 4000 ∧ Q (.int (nd n)) M
theorem sp_count_of_len : ∀ xs M Q E, sp_count_of xs M Q E → xs.length = 1 := fun xs M Q E ⟨_, h, _⟩ => by rw [h]; rfl
theorem ok_count_of (T : Tx K mg) : FnQ P w K mg base 2 T.a_count_of T.d_count_of ["figures"] sp_count_of := by
  refine okQ T.F_count_of sc_count_of sp_count_of_len (fun cdv A outer s0 H0 E hr => ?_)
  have tk := takes_of (X := cxOf (L2.CX P w) P w K mg base ["figures", "many", "bound"] "count_of" (defScope s_count_of) T.a_count_of cdv A outer s0 H0 E) (E := E) rfl rfl rfl rfl
  have po := passes_of (X := cxOf (L2.CX P w) P w K mg base ["figures", "many", "bound"] "count_of" (defScope s_count_of) T.a_count_of cdv A outer s0 H0 E) rfl
  refine ⟨_, (qss_cons (qs_set 1 sc_count_of.nd (qe_callB (id := "max") (cq_max rfl) T.n_max (qa_cons qe_int (qa_cons (qe_bin oq_div (qe_bin oq_mul (qe_bin oq_sub (qe_bits (qv 0)) qe_int) qe_int) qe_int) qa_nil))))
  (qss_cons (qs_set 2 sc_count_of.nd (qe_call (ok_ten_to T) hr T.m_ten_to T.F_ten_to.kp T.b_ten_to tk (qa_cons (qv 1) qa_nil)))
  (qss_cons (qs_while po (qt_cmp oq_ge (qv 0) (qv 2))
  (qss_cons (qs_aug 1 sc_count_of.nd iq_add qe_int)
  (qss_one (qs_aug 2 sc_count_of.nd iq_mul qe_int))))
  (qss_one (qs_ret (qe_callB (id := "max") (cq_max rfl) T.n_max (qa_cons qe_int (qa_cons (qv 1) qa_nil)))))))), ?_⟩
  clear tk po
  clear hr
  rintro xs M Q E ⟨n, rfl, hn, k⟩
  walk_at "q"
  have h0 : n = 0 ∨ 2 ^ (Builtin.Int.intBits (n : Int) - 1) ≤ n ∧ 1 ≤ Builtin.Int.intBits (n : Int) := by
    rcases Nat.eq_zero_or_pos n with z | z
    · exact .inl z
    · refine .inr ?_
      unfold Builtin.Int.intBits
      rw [if_neg (by simpa using (show (n : Int) ≠ 0 by omega)), Int.natAbs_natCast]
      exact ⟨by simpa using Nat.log2_self_le (by omega), by omega⟩
  have hb : Builtin.Int.intBits (n : Int) ≤ 4 * 4000 + 1 := PyProof.Rows.intBits_le (by rw [Int.natAbs_natCast]; exact Nat.lt_trans hn (pow10_16 4000))
  have hb0 : n = 0 → Builtin.Int.intBits (n : Int) = 0 := fun z => by subst z; rfl
  generalize Builtin.Int.intBits (n : Int) = b at h0 hb hb0 ⊢
  obtain ⟨m, hm, hmg⟩ : ∃ m : Nat, max 0 (((b : Int) - 1) * 30102 / 100000) = (m : Int) ∧ (n = 0 ∧ m = 0 ∨ 10 ^ m ≤ n) ∧ m ≤ 5000 := by
    refine ⟨(max 0 (((b : Int) - 1) * 30102 / 100000)).toNat, by omega, ?_, by omega⟩
    rcases h0 with z | ⟨h1, h2⟩
    · have := hb0 z
      exact .inl ⟨z, by omega⟩
    · exact .inr (Nat.le_trans (guess (b := b - 1) (by omega)) h1)
  refine ⟨mul_ok_r (by decide) (by decide), ⟨by decide, by decide +kernel⟩, ?_⟩
  rw [hm]
  refine ⟨_, rfl, by omega, ?_⟩
  rw [Int.toNat_natCast]
  refine sWhile_of (fun k env M' => ∃ c : Nat, env = [some (.int n), some (.int c), some (.int ((10 ^ c : Nat) : Int))] ∧ M' = M ∧ (n = 0 ∧ c = 0 ∨ 10 ^ c ≤ n ∨ 1 ≤ c ∧ 10 ^ (c - 1) ≤ n) ∧ k = n + 1 - 10 ^ c) ⟨_, m, rfl, rfl, by rcases hmg.1 with h | h; exact .inl h; exact .inr (.inl h), rfl⟩ ?_
  rintro l env M' ⟨c, rfl, rfl, hc, rfl⟩
  walk_at "q"
  have p1 := ten_pos c
  have e10 : ((10 ^ c : Nat) : Int) * 10 = ((10 ^ (c + 1) : Nat) : Int) := by rw [Nat.pow_succ, Int.natCast_mul]; rfl
  have p2 : 10 ^ (c + 1) = 10 ^ c * 10 := Nat.pow_succ ..
  refine iteP_of (fun h1 => ?_) (fun h1 => ?_)
  · walk_at "q"
    rw [e10]
    refine ⟨mul_ok_r (by decide) (by decide), _, ?_, c + 1, by simp, .inr (.inr ⟨by omega, by simpa using (by omega : 10 ^ c ≤ n)⟩), rfl⟩
    omega
  · have hl : n < 10 ^ c := by omega
    have : max 1 (c : Int) = (nd n : Int) := by
      rcases hc with ⟨z1, z2⟩ | z | ⟨z1, z2⟩
      · subst z1 z2; rw [nd_zero]; rfl
      · omega
      · rw [nd_of z1 z2 hl]; omega
    walk_at "q"
    rw [this]
    exact k

/-! root_below -/
def sp_root_below : SpQ := fun xs M Q _ => ∃ n : Nat, xs = [.int n] ∧ n < 10 ^ 3000 ∧ Q (.int (isq n)) M
theorem sp_root_below_len : ∀ xs M Q E, sp_root_below xs M Q E → xs.length = 1 := fun xs M Q E ⟨_, h, _⟩ => by rw [h]; rfl
theorem ok_root_below (T : Tx K mg) : FnQ P w K mg base 3 T.a_root_below T.d_root_below ["number"] sp_root_below := by
  refine okQ T.F_root_below sc_root_below sp_root_below_len (fun cdv A outer s0 H0 E hr => ?_)
  have tk := takes_of (X := cxOf (L2.CX P w) P w K mg base ["number", "found", "other"] "root_below" (defScope s_root_below) T.a_root_below cdv A outer s0 H0 E) (E := E) rfl rfl rfl rfl
  have po := passes_of (X := cxOf (L2.CX P w) P w K mg base ["number", "found", "other"] "root_below" (defScope s_root_below) T.a_root_below cdv A outer s0 H0 E) rfl
  refine ⟨_, (qss_cons (qs_if (qt_cmp (oq_eq hr.units) (qv 0) qe_int)
  (qss_one (qs_ret qe_int))
  qss_nil)
  (qss_cons (qs_set 1 sc_root_below.nd (qe_call (ok_ten_to T) (hr.mono (by decide)) T.m_ten_to T.F_ten_to.kp T.b_ten_to tk (qa_cons (qe_bin oq_div (qe_bin oq_add (qe_call (ok_count_of T) hr T.m_count_of T.F_count_of.kp T.b_count_of tk (qa_cons (qv 0) qa_nil)) qe_int) qe_int) qa_nil)))
  (qss_one (qs_while po (qt_val qe_bl)
  (qss_cons (qs_set 2 sc_root_below.nd (qe_bin oq_div (qe_bin oq_add (qv 1) (qe_bin oq_div (qv 0) (qv 1))) qe_int))
  (qss_cons (qs_if (qt_cmp oq_ge (qv 2) (qv 1))
  (qss_one (qs_ret (qv 1)))
  qss_nil)
  (qss_one (qs_set 1 sc_root_below.nd (qv 2))))))))), ?_⟩
  clear tk po
  clear hr
  rintro xs M Q E ⟨n, rfl, hn, k⟩
  walk_at "q"
  refine iteP_of (fun h0 => ?_) (fun h0 => ?_)
  · walk_at "q"
    have : n = 0 := by omega
    subst this
    exact k
  · walk_at "q"
    have hd := nd_le_of (by decide) hn
    have hd1 := nd_lt n
    have hs := isq_spec n
    refine ⟨n, rfl, Nat.lt_trans hn (pow10_lt (by decide)), ?_⟩
    clear hn
    walk_at "q"
    refine ⟨by mul_fits, _, rfl, by omega, ?_⟩
    walk_at "q"
    have e1 : (((nd n : Int) + 1) / 2).toNat = (nd n + 1) / 2 := by omega
    rw [e1]
    have hb : isq n ≤ 10 ^ ((nd n + 1) / 2) := by
      refine Nat.le_of_lt (sq_lt_inv (Nat.lt_of_le_of_lt hs.1 (Nat.lt_of_lt_of_le hd1 ?_)))
      rw [← Nat.pow_add]
      exact pow10_le (by omega)
    have hm : 10 ^ ((nd n + 1) / 2) < 2 ^ 6005 := Nat.lt_of_lt_of_le (pow10_16 _) (two_le (by omega))
    generalize 10 ^ ((nd n + 1) / 2) = f0 at *
    have hf0 : 0 < f0 := by
      have : 0 < isq n := by
        rcases Nat.eq_zero_or_pos (isq n) with z | z
        · rw [z] at hs; omega
        · exact z
      omega
    refine sWhile_of (fun m env M' => ∃ (f : Nat) (o : Option PV), env = [some (.int n), some (.int f), o] ∧ M' = M ∧ isq n ≤ f ∧ 0 < f ∧ f < 2 ^ 6005 ∧ m = f) ⟨_, f0, none, rfl, rfl, hb, hf0, hm, rfl⟩ ?_
    rintro m env M' ⟨f, o, rfl, rfl, h1, h2, h3, rfl⟩
    walk_at "q"
    refine ⟨divw (n := 6005) (by omega) (by simpa using h3) (by decide), by mul_fits, ?_⟩
    have e2 : (((m : Int) + (n : Int) / (m : Int)) / 2) = (((m + n / m) / 2 : Nat) : Int) := by
      rw [← Int.natCast_ediv]; omega
    rw [e2]
    refine iteP_of (fun h => ?_) (fun h => ?_)
    · walk_at "q"
      rw [newton_end hs.2 h1 h2 (by omega)]
      exact k
    · walk_at "q"
      have := newton hs.1 h1 h2
      have hp : 0 < isq n := by
        rcases Nat.eq_zero_or_pos (isq n) with z | z
        · rw [z] at hs; omega
        · exact z
      exact ⟨_, by omega, _, _, rfl, this, by omega, by omega, rfl⟩

/-! Root___init__ -/
theorem ok_Root___init__ (T : Tx K mg) : FnOk P w K mg base (L2.CX P w) 1 T.a_Root___init__ T.d_Root___init__ ["self", "top", "power"] (spInit T.c_Root ns_Root) := by
  refine FunD.ok T.F_Root___init__ sc_Root___init__ (fun vs H Q E h => ?_) (fun cdv A outer s H vs Q E hr h => ?_)
  · obtain ⟨x, dx, us, rfl, hl, _⟩ := h
    simpa using hl
  · obtain ⟨x, dx, us, rfl, hl, hx, k⟩ := h
    match us, hl, k with
    | [u1, u2], _, k =>
      have e1 : putF "square" u1 ([] : List (Str × V)) = List.zip (["square"] : List Str) ([u1] : List V) := rfl
      have e2 : putF "scale" u2 (List.zip (["square"] : List Str) ([u1] : List V)) = List.zip (["square", "scale"] : List Str) ([u1, u2] : List V) := putF_zip (ns := ["square"]) (us := [u1]) (by decide +kernel) rfl
      refine ⟨_, PSs.nox (pss_cons (ps_fld (pv 0) (pv 1) rfl) (pss_one (ps_fld (pv 0) (pv 2) rfl))), ?_⟩
      refine ⟨_, rfl, _, rfl, x, T.c_Root, dx, _, rfl, hx, T.i_Root.cl, T.no_Root_square, (by show 0 < 1000; decide), _, rfl, _, rfl, x, T.c_Root, dx, _, rfl, upd_same, T.i_Root.cl, T.no_Root_scale, (by rw [e1]; show 1 < 1000; decide), ?_⟩
      simp only [upd_upd]
      rw [e1, e2]
      exact k

/-! Root_first -/
def sp_Root_first (T : Tx K mg) : SpQ := fun xs M Q _ => ∃ (t : Nat) (s : Int), xs = [roo T.c_Root t s] ∧ t < 10 ^ 1000 ∧ Q (.int (rfst t s)) M
theorem sp_Root_first_len (T : Tx K mg) : ∀ xs M Q E, sp_Root_first T xs M Q E → xs.length = 1 := fun xs M Q E ⟨_, _, h, _⟩ => by rw [h]; rfl
theorem ok_Root_first (T : Tx K mg) : FnQ P w K mg base 3 T.a_Root_first T.d_Root_first ["self"] (sp_Root_first T) := by
  refine okQ T.F_Root_first sc_Root_first (sp_Root_first_len T) (fun cdv A outer s0 H0 E hr => ?_)
  have tk := takes_of (X := cxOf (L2.CX P w) P w K mg base ["self"] "Root.first" (defScope s_Root_first) T.a_Root_first cdv A outer s0 H0 E) (E := E) rfl rfl rfl rfl
  have po := passes_of (X := cxOf (L2.CX P w) P w K mg base ["self"] "Root.first" (defScope s_Root_first) T.a_Root_first cdv A outer s0 H0 E) rfl
  refine ⟨_, (qss_one (qs_ret (qe_bin oq_div (qe_bin oq_add (qe_bin oq_sub (qe_call (ok_count_of T) hr T.m_count_of T.F_count_of.kp T.b_count_of tk (qa_cons (qe_fldK (K := K) rfl (qv 0)) qa_nil)) qe_int) (qe_fldK (K := K) rfl (qv 0))) qe_int))), ?_⟩
  clear tk po
  clear hr
  rintro xs M Q E ⟨t, s, rfl, ht, k⟩
  walk_at "q"
  refine ⟨t, rfl, Nat.lt_trans ht (pow10_lt (by decide)), ?_⟩
  walk_at "q"
  exact ⟨by mul_fits, k⟩

/-! Root_at -/
def sp_Root_at (T : Tx K mg) : SpQ := fun xs M Q _ => ∃ (t : Nat) (s p : Int), xs = [roo T.c_Root t s, .int p] ∧ (t < 10 ^ 1000 ∧ -1500 ≤ s - 2 * p ∧ s - 2 * p ≤ 1900) ∧
  Q (.tup [.int (isq (sideH t (s - 2 * p) / sideL 1 (s - 2 * p)) : Nat), .int (rprt (isq (sideH t (s - 2 * p) / sideL 1 (s - 2 * p))) (sideH t (s - 2 * p)) (sideL 1 (s - 2 * p)))]) M
theorem sp_Root_at_len (T : Tx K mg) : ∀ xs M Q E, sp_Root_at T xs M Q E → xs.length = 2 := fun xs M Q E ⟨_, _, _, h, _⟩ => by rw [h]; rfl
theorem ok_Root_at (T : Tx K mg) : FnQ P w K mg base 4 T.a_Root_at T.d_Root_at ["self", "power"] (sp_Root_at T) := by
  refine okQ T.F_Root_at sc_Root_at (sp_Root_at_len T) (fun cdv A outer s0 H0 E hr => ?_)
  have tk := takes_of (X := cxOf (L2.CX P w) P w K mg base ["self", "power", "shift", "top", "bottom", "whole", "middle"] "Root.at" (defScope s_Root_at) T.a_Root_at cdv A outer s0 H0 E) (E := E) rfl rfl rfl rfl
  have po := passes_of (X := cxOf (L2.CX P w) P w K mg base ["self", "power", "shift", "top", "bottom", "whole", "middle"] "Root.at" (defScope s_Root_at) T.a_Root_at cdv A outer s0 H0 E) rfl
  refine ⟨_, (qss_cons (qs_set 2 sc_Root_at.nd (qe_bin oq_sub (qe_fldK (K := K) rfl (qv 0)) (qe_bin oq_mul qe_int (qv 1))))
  (qss_cons (qs_set 3 sc_Root_at.nd (qe_bin oq_mul (qe_fldK (K := K) rfl (qv 0)) (qe_call (ok_ten_to T) (hr.mono (by decide)) T.m_ten_to T.F_ten_to.kp T.b_ten_to tk (qa_cons (qe_callB (id := "max") (cq_max rfl) T.n_max (qa_cons (qv 2) (qa_cons qe_int qa_nil))) qa_nil))))
  (qss_cons (qs_set 4 sc_Root_at.nd (qe_call (ok_ten_to T) (hr.mono (by decide)) T.m_ten_to T.F_ten_to.kp T.b_ten_to tk (qa_cons (qe_callB (id := "max") (cq_max rfl) T.n_max (qa_cons (qe_bin oq_sub qe_int (qv 2)) (qa_cons qe_int qa_nil))) qa_nil)))
  (qss_cons (qs_set 5 sc_Root_at.nd (qe_call (ok_root_below T) hr T.m_root_below T.F_root_below.kp T.b_root_below tk (qa_cons (qe_bin oq_div (qv 3) (qv 4)) qa_nil)))
  (qss_cons (qs_if (qt_cmp (oq_eq hr.units) (qe_bin oq_mul (qe_bin oq_mul (qv 5) (qv 5)) (qv 4)) (qv 3))
  (qss_one (qs_ret (qe_tup (qa_cons (qv 5) (qa_cons qe_int qa_nil)))))
  qss_nil)
  (qss_cons (qs_set 6 sc_Root_at.nd (qe_bin oq_mul (qe_bin oq_mul (qe_bin oq_add (qe_bin oq_mul qe_int (qv 5)) qe_int) (qe_bin oq_add (qe_bin oq_mul qe_int (qv 5)) qe_int)) (qv 4)))
  (qss_one (qs_ret (qe_tup (qa_cons (qv 5) (qa_cons (qe_bin oq_sub (qe_bin oq_add qe_int (qe_callT (T := "int") cq_int T.n_int (qa_cons (qe_cmp oq_gt (qe_bin oq_mul qe_int (qv 3)) (qv 6)) qa_nil))) (qe_callT (T := "int") cq_int T.n_int (qa_cons (qe_cmp oq_lt (qe_bin oq_mul qe_int (qv 3)) (qv 6)) qa_nil))) qa_nil))))))))))), ?_⟩
  clear tk po
  clear hr
  rintro xs M Q E ⟨t, s, p, rfl, ⟨ht, l1, l2⟩, k⟩
  walk_at "q"
  generalize s - 2 * p = x at *
  have bH := side_bits (s := x) (n := 1900) ht (by clear ht; omega)
  have bL := sideL_bits (b := 1) (k := 1) (s := x) (n := 1500) (by decide) (by clear ht bH; omega)
  have hL := sideL_pos (Nat.le_refl 1) x
  have ht2 := pow10_lt_2 ht
  have bH2 := pow10_lt_2 bH
  have bL2 := pow10_lt_2 bL
  have bq : sideH t x / sideL 1 x < 10 ^ (1000 + 1900) := Nat.lt_of_le_of_lt (Nat.div_le_self _ _) bH
  have bw : isq (sideH t x / sideL 1 x) < 2 ^ (4 * (1000 + 1900) + 1) := Nat.lt_of_le_of_lt (Nat.le_trans (isq_le _) (Nat.div_le_self _ _)) bH2
  refine ⟨by mul_fits, _, rfl, by omega, ?_⟩
  walk_at "q"
  refine ⟨mul_ok_nat ht2 (pow10_16 _) (by omega), ?_⟩
  have e1 : (t : Int) * ((10 ^ (max x 0).toNat : Nat) : Int) = (sideH t x : Nat) := by
    unfold sideH; rw [Int.natCast_mul]; congr 3; omega
  have e2 : ((10 ^ (max (0 - x) 0).toNat : Nat) : Int) = (sideL 1 x : Nat) := by
    unfold sideL; rw [Nat.one_mul]; congr 2; omega
  rw [e1]
  refine ⟨_, rfl, by omega, ?_⟩
  walk_at "q"
  rw [e2]
  refine ⟨divw (n := 4 * (1 + 1500) + 1) (by omega) (by simpa using bL2) (by decide), ?_⟩
  clear bH bL ht
  refine ⟨sideH t x / sideL 1 x, by rw [Int.natCast_ediv], Nat.lt_of_lt_of_le bq (pow10_le (by decide)), ?_⟩
  clear bq
  walk_at "q"
  generalize isq (sideH t x / sideL 1 x) = w at *
  generalize sideH t x = H at *
  generalize sideL 1 x = L at *
  have bww := Nat.mul_lt_mul_of_lt_of_le bw (Nat.le_of_lt bw) (by omega)
  have bw2 : w * w < 2 ^ (4 * (1000 + 1900) + 1 + (4 * (1000 + 1900) + 1)) := by rw [Nat.pow_add]; exact bww
  have bm : 2 * w + 1 < 2 ^ (4 * (1000 + 1900) + 1 + 2) := by rw [Nat.pow_add]; generalize 2 ^ (4 * (1000 + 1900) + 1) = z at bw; omega
  have bmm : (2 * w + 1) * (2 * w + 1) < 2 ^ (4 * (1000 + 1900) + 1 + 2 + (4 * (1000 + 1900) + 1 + 2)) := by rw [Nat.pow_add 2 (4 * (1000 + 1900) + 1 + 2)]; exact Nat.mul_lt_mul_of_lt_of_le bm (Nat.le_of_lt bm) (by omega)
  have c1 : (2 : Int) * (w : Int) + 1 = ((2 * w + 1 : Nat) : Int) := by omega
  rw [← Int.natCast_mul w w]
  refine ⟨mul_ok_nat bw bw (by decide), mul_ok_nat bw2 bL2 (by decide), ?_⟩
  rw [← Int.natCast_mul]
  refine iteP_of (fun h => ?_) (fun h => ?_)
  · walk_at "q"
    rw [rprt, if_pos (by omega)] at k
    exact k
  · walk_at "q"
    rw [c1, ← Int.natCast_mul (2 * w + 1) (2 * w + 1), ← Int.natCast_mul, rprt_eq (by omega)]
    exact ⟨by mul_fits, by mul_fits, mul_ok_nat bm bm (by decide), mul_ok_nat bmm bL2 (by decide), by mul_fits, by mul_fits, k⟩

/-! _law_cell_at -/
def sp__law_cell_at : SpQ := fun xs M Q _ => ∃ (ns : List Int) (k : Int), xs = [.scr ns, .int k] ∧ 0 ≤ k ∧ Q (.int (cell ns k)) M
theorem sp__law_cell_at_len : ∀ xs M Q E, sp__law_cell_at xs M Q E → xs.length = 2 := fun xs M Q E ⟨_, _, h, _⟩ => by rw [h]; rfl
theorem ok__law_cell_at (T : Tx K mg) : FnQ P w K mg base 1 T.a__law_cell_at T.d__law_cell_at ["_law_script", "_law_k"] sp__law_cell_at := by
  refine okQ T.F__law_cell_at sc__law_cell_at sp__law_cell_at_len (fun cdv A outer s0 H0 E hr => ?_)
  have tk := takes_of (X := cxOf (L2.CX P w) P w K mg base ["_law_script", "_law_k"] "_law_cell_at" (defScope s__law_cell_at) T.a__law_cell_at cdv A outer s0 H0 E) (E := E) rfl rfl rfl rfl
  have po := passes_of (X := cxOf (L2.CX P w) P w K mg base ["_law_script", "_law_k"] "_law_cell_at" (defScope s__law_cell_at) T.a__law_cell_at cdv A outer s0 H0 E) rfl
  refine ⟨_, (qss_cons (qs_if (qt_cmp oq_lt (qv 1) (qe_callB (id := "len") cq_len T.n_len (qa_cons (qv 0) qa_nil)))
  (qss_one (qs_ret (qe_ix (qv 0) (qv 1))))
  qss_nil)
  (qss_one (qs_ret qe_int))), ?_⟩
  clear tk po
  clear hr
  rintro xs M Q E ⟨ns, k, rfl, hk, h⟩
  walk_at "q"
  refine iteP_of (fun h1 => ?_) (fun h1 => ?_)
  · walk_at "q"
    rw [cell_at hk h1]
    walk_at "q"
    exact h
  · walk_at "q"
    rw [cell_no hk h1] at h
    exact h

/-! _law_mixed -/
def sp__law_mixed : SpQ := fun xs M Q _ => ∃ c k : Int, xs = [.int c, .int k] ∧ (0 ≤ k ∧ k ≤ 1000) ∧ Q (.int (mixed c k)) M
theorem sp__law_mixed_len : ∀ xs M Q E, sp__law_mixed xs M Q E → xs.length = 2 := fun xs M Q E ⟨_, _, h, _⟩ => by rw [h]; rfl
theorem ok__law_mixed (T : Tx K mg) : FnQ P w K mg base 1 T.a__law_mixed T.d__law_mixed ["_law_cell", "_law_k"] sp__law_mixed := by
  refine okQ T.F__law_mixed sc__law_mixed sp__law_mixed_len (fun cdv A outer s0 H0 E hr => ?_)
  have tk := takes_of (X := cxOf (L2.CX P w) P w K mg base ["_law_cell", "_law_k"] "_law_mixed" (defScope s__law_mixed) T.a__law_mixed cdv A outer s0 H0 E) (E := E) rfl rfl rfl rfl
  have po := passes_of (X := cxOf (L2.CX P w) P w K mg base ["_law_cell", "_law_k"] "_law_mixed" (defScope s__law_mixed) T.a__law_mixed cdv A outer s0 H0 E) rfl
  refine ⟨_, (qss_one (qs_ret (qe_bin oq_mod (qe_bin oq_mul (qe_bin oq_mod (qe_bin oq_add (qe_bin oq_add (qe_bin oq_mul (qv 0) (qe_bin oq_add qe_int (qe_bin oq_mul (qe_bin oq_mul qe_int (qv 1)) (qv 1)))) (qe_bin oq_mul qe_int (qv 1))) qe_int) qe_int) qe_int) qe_int))), ?_⟩
  clear tk po
  clear hr
  rintro xs M Q E ⟨c, k, rfl, hk, h⟩
  walk_at "q"
  have h1 : k * k ≤ 1000 * k := Int.mul_le_mul_of_nonneg_right hk.2 hk.1
  have h0 : 0 ≤ k * k := Int.mul_nonneg hk.1 hk.1
  have e2 : 2 * k * k = 2 * (k * k) := Int.mul_assoc 2 k k
  exact ⟨by mul_fits, by mul_fits, by mul_fits, by mul_fits, by mul_fits, h⟩

/-! _law_ten -/
def sp__law_ten : SpQ := fun xs M Q _ => ∃ n : Int, xs = [.int n] ∧ (0 ≤ n ∧ n ≤ 600) ∧ Q (.int ((10 ^ n.toNat : Nat) : Int)) M
theorem sp__law_ten_len : ∀ xs M Q E, sp__law_ten xs M Q E → xs.length = 1 := fun xs M Q E ⟨_, h, _⟩ => by rw [h]; rfl
theorem ok__law_ten (T : Tx K mg) : FnQ P w K mg base 1 T.a__law_ten T.d__law_ten ["_law_count"] sp__law_ten := by
  refine okQ T.F__law_ten sc__law_ten sp__law_ten_len (fun cdv A outer s0 H0 E hr => ?_)
  have tk := takes_of (X := cxOf (L2.CX P w) P w K mg base ["_law_count"] "_law_ten" (defScope s__law_ten) T.a__law_ten cdv A outer s0 H0 E) (E := E) rfl rfl rfl rfl
  have po := passes_of (X := cxOf (L2.CX P w) P w K mg base ["_law_count"] "_law_ten" (defScope s__law_ten) T.a__law_ten cdv A outer s0 H0 E) rfl
  refine ⟨_, (qss_one (qs_ret (qe_callT (T := "int") cq_int T.n_int (qa_cons (qe_bin oq_add qe_str (qe_bin oq_mul qe_str (qv 0))) qa_nil)))), ?_⟩
  clear tk po
  clear hr
  rintro xs M Q E ⟨n, rfl, hn, h⟩
  walk_at "q"
  have hz : (repS ("0" : Str) n).length = n.toNat := by
    have := one_zero_len n
    rw [strLen_append] at this
    have h1 : ("1" : Str).length = 1 := rfl
    omega
  refine ⟨⟨hn.1, by omega, by decide⟩, ?_, _, ten_text (by omega), by rw [one_zero_len]; omega, h⟩
  rw [hz, sizeLine_eq]
  have h1 : ("1" : Str).length = 1 := rfl
  omega

/-! _law_top -/
def sp__law_top : SpQ := fun xs M Q _ => ∃ c : Int, xs = [.int c] ∧ (0 ≤ c ∧ c < 2147483648) ∧ ∀ r : Nat, 1 ≤ r → r < 10 ^ 30 → ∀ M', MExt M M' → Q (.int r) M'
theorem sp__law_top_len : ∀ xs M Q E, sp__law_top xs M Q E → xs.length = 1 := fun xs M Q E ⟨_, h, _⟩ => by rw [h]; rfl
theorem ok__law_top (T : Tx K mg) : FnQ P w K mg base 2 T.a__law_top T.d__law_top ["_law_cell"] sp__law_top := by
  refine okQ T.F__law_top sc__law_top sp__law_top_len (fun cdv A outer s0 H0 E hr => ?_)
  have tk := takes_of (X := cxOf (L2.CX P w) P w K mg base ["_law_cell", "_law_size", "_law_more", "_law_some"] "_law_top" (defScope s__law_top) T.a__law_top cdv A outer s0 H0 E) (E := E) rfl rfl rfl rfl
  have po := passes_of (X := cxOf (L2.CX P w) P w K mg base ["_law_cell", "_law_size", "_law_more", "_law_some"] "_law_top" (defScope s__law_top) T.a__law_top cdv A outer s0 H0 E) rfl
  refine ⟨_, (qss_cons (qs_set 1 sc__law_top.nd (qe_bin oq_add qe_int (qe_bin oq_mod (qe_bin oq_div (qv 0) qe_int) qe_int)))
  (qss_cons (qs_set 2 sc__law_top.nd (qe_bin oq_add qe_int (qe_bin oq_mod (qe_bin oq_div (qv 0) qe_int) qe_int)))
  (qss_cons (qs_set 3 sc__law_top.nd (qe_lstM (qa_cons (qe_orT (qe_bin oq_mod (qv 2) qe_int) (qe_one qe_int)) (qa_cons (qv 2) (qa_cons (qe_bin oq_mul (qv 2) (qe_call (ok__law_ten T) hr T.m__law_ten T.F__law_ten.kp T.b__law_ten tk (qa_cons (qv 1) qa_nil))) (qa_cons (qe_bin oq_sub (qe_call (ok__law_ten T) hr T.m__law_ten T.F__law_ten.kp T.b__law_ten tk (qa_cons (qv 1) qa_nil)) qe_int) (qa_cons (qe_bin oq_mul qe_int (qe_call (ok__law_ten T) hr T.m__law_ten T.F__law_ten.kp T.b__law_ten tk (qa_cons (qv 1) qa_nil))) (qa_cons (qe_bin oq_add (qe_bin oq_mul (qv 2) qe_int) qe_int) qa_nil))))))))
  (qss_cons (qs_expr (qe_app (qv 3) (qe_bin oq_sub (qe_bin oq_add (qe_bin oq_mul (qe_bin oq_add (qe_bin oq_mul qe_int (qv 2)) qe_int) (qe_call (ok__law_ten T) hr T.m__law_ten T.F__law_ten.kp T.b__law_ten tk (qa_cons (qv 1) qa_nil))) (qe_bin oq_mod (qe_bin oq_div (qv 0) qe_int) qe_int)) qe_int)))
  (qss_cons (qs_expr (qe_app (qv 3) (qe_bin oq_mul (qe_bin oq_mul (qe_bin oq_mul (qe_bin oq_mul (qv 2) qe_int) qe_int) (qe_bin oq_add (qv 2) qe_int)) qe_int)))
  (qss_one (qs_ret (qe_ix (qv 3) (qe_bin oq_mod (qv 0) qe_int))))))))), ?_⟩
  clear tk po
  clear hr
  rintro xs M Q E ⟨c, rfl, hc, h⟩
  walk_at "q"
  refine ⟨divw (n := 4) (by decide) (by decide), divw (n := 7) (by decide) (by decide), ?_⟩
  have n1 : 0 ≤ c / 8 % 12 ∧ c / 8 % 12 < 12 := ⟨Int.emod_nonneg _ (by decide), Int.emod_lt_of_pos _ (by decide)⟩
  have n2 : 0 ≤ c / 96 % 100000 ∧ c / 96 % 100000 < 100000 := ⟨Int.emod_nonneg _ (by decide), Int.emod_lt_of_pos _ (by decide)⟩
  generalize hz : 1 + c / 8 % 12 = z
  generalize hm : 1 + c / 96 % 100000 = m
  have z1 : 1 ≤ z ∧ z ≤ 12 := by omega
  have m1 : 1 ≤ m ∧ m ≤ 100000 := by omega
  clear hz hm n1 n2
  have t1 := ten_pos z.toNat
  have t2 : 10 ^ z.toNat ≤ 10 ^ 12 := pow10_le (by omega)
  have t3 : 10 ≤ 10 ^ z.toNat := pow10_le (m := 1) (by omega)
  have hq : ∀ (i : Int) (M' : Mem), MExt M M' → 1 ≤ i → i < 10 ^ 30 → Q (.int i) M' := fun i M' hM h1 h2 => by
    have := h i.toNat (by omega) (by omega) M' hM
    rwa [Int.toNat_of_nonneg (by omega)] at this
  clear h
  refine ⟨z, rfl, ⟨by omega, by omega⟩, ?_⟩
  walk_at "q"
  generalize ht : ((10 ^ z.toNat : Nat) : Int) = t
  have t4 : 10 ≤ t ∧ t ≤ 10 ^ 12 := by omega
  have t5 : t < 2 ^ 64 := by omega
  have mt0 : 1 * t ≤ m * t := Int.mul_le_mul_of_nonneg_right m1.1 (by omega)
  have mt1 : m * t ≤ 100000 * t := Int.mul_le_mul_of_nonneg_right m1.2 (by omega)
  have mm1 : (10 * m + 5) * t ≤ (10 * 100000 + 5) * t := Int.mul_le_mul_of_nonneg_right (by omega) (by omega)
  have mm0 : 15 * t ≤ (10 * m + 5) * t := Int.mul_le_mul_of_nonneg_right (by omega) (by omega)
  have mq1 : m * 7919 * 104729 * (m + 48271) ≤ m * 7919 * 104729 * 148271 := Int.mul_le_mul_of_nonneg_left (by omega) (by omega)
  have mq0 : m * 7919 * 104729 * 48272 ≤ m * 7919 * 104729 * (m + 48271) := Int.mul_le_mul_of_nonneg_left (by omega) (by omega)
  refine ⟨by mul_fits, z, rfl, ⟨by omega, by omega⟩, ?_⟩
  walk_at "q"
  rw [ht]
  refine ⟨z, rfl, ⟨by omega, by omega⟩, ?_⟩
  walk_at "q"
  rw [ht]
  refine ⟨by mul_fits, by mul_fits, len_ok (by decide), ?_⟩
  refine lstP_of fun p hp => ?_
  walk_at "q"
  refine ⟨by mul_fits, z, rfl, ⟨by omega, by omega⟩, ?_⟩
  walk_at "q"
  rw [ht]
  refine ⟨by mul_fits, divw (n := 4) (by decide) (by decide), len_lt (by decide), ?_⟩
  refine ⟨by mul_fits, by mul_fits, by mul_fits, by mul_fits, len_lt (by decide), ?_⟩
  obtain ⟨v, hv, e⟩ := atI_mem (xs := [PV.int (if (m % 10 != 0) = true then m % 10 else 1), PV.int m, PV.int (m * t), PV.int (t - 1), PV.int (5 * t), PV.int (m * 10 + 5), PV.int ((10 * m + 5) * t + c / 7 % 3 - 1), PV.int (m * 7919 * 104729 * (m + 48271) * 15485863)]) (i := c % 8) (by omega) (by simp only [List.length_cons, List.length_nil]; omega)
  rw [e]
  walk_at "q"
  simp only [List.mem_cons, List.not_mem_nil, or_false] at hv
  rcases hv with rfl | rfl | rfl | rfl | rfl | rfl | rfl | rfl <;> refine hq _ _ (mext_set hp) ?_ ?_
  all_goals first | omega | (split <;> rename_i hb <;> (try rw [bne_iff_ne] at hb) <;> omega) | (split <;> omega)

/-! _law_pair -/
def sp__law_pair : SpQ := fun xs M Q _ => ∃ a b : Int, xs = [.tup [.int a, .int b]] ∧ Q (.bl true) M
theorem sp__law_pair_len : ∀ xs M Q E, sp__law_pair xs M Q E → xs.length = 1 := fun xs M Q E ⟨_, _, h, _⟩ => by rw [h]; rfl
theorem ok__law_pair (T : Tx K mg) : FnQ P w K mg base 1 T.a__law_pair T.d__law_pair ["_law_found"] sp__law_pair := by
  refine okQ T.F__law_pair sc__law_pair sp__law_pair_len (fun cdv A outer s0 H0 E hr => ?_)
  have tk := takes_of (X := cxOf (L2.CX P w) P w K mg base ["_law_found", "_law_one"] "_law_pair" (defScope s__law_pair) T.a__law_pair cdv A outer s0 H0 E) (E := E) rfl rfl rfl rfl
  have po := passes_of (X := cxOf (L2.CX P w) P w K mg base ["_law_found", "_law_one"] "_law_pair" (defScope s__law_pair) T.a__law_pair cdv A outer s0 H0 E) rfl
  refine ⟨_, (qss_cons (qs_if (qt_w (qw_or (qt_not (qt_val (qe_callB (id := "isinstance") (cq_isiK (K := K) rfl) T.n_isinstance (qa_cons (qv 0) (qa_cons (qe_ty (n := "tuple") T.n_tuple) qa_nil))))) (qw_one_or (qt_cmp (oq_ne hr.units) (qe_callB (id := "len") cq_len T.n_len (qa_cons (qv 0) qa_nil)) qe_int))))
  (qss_one (qs_ret qe_bl))
  qss_nil)
  (qss_one (qs_ret (qe_callB (id := "all") (cq_all rfl) T.n_all (qa_cons (qe_lcT (own := [("_law_one", 1)]) (j := 1) rfl sc__law_pair.nd (qv 0) (by decide) (blkOk_by (own := [("_law_one", 1)]) (N := ["_law_found", "_law_one"]) (sc := defScope s__law_pair) (by decide +kernel)) (fun _ _ _ _ _ => pg_name (i := 1) sc__law_pair.nd rfl (Or.inl rfl)) (fun _ _ _ _ _ => qts_nil) (fun _ _ _ _ _ => (qe_and (qe_callB (id := "isinstance") (cq_isiK (K := K) rfl) T.n_isinstance (qa_cons (qv 1) (qa_cons (qe_ty (n := "int") T.n_int) qa_nil))) (qe_one (qe_not (qe_callB (id := "isinstance") (cq_isiK (K := K) rfl) T.n_isinstance (qa_cons (qv 1) (qa_cons (qe_ty (n := "bool") T.n_bool) qa_nil)))))))) qa_nil))))), ?_⟩
  clear tk po
  clear hr
  rintro xs M Q E ⟨a, b, rfl, k⟩
  walk_at "q"
  refine lcT_of (fun _ => some (.bl true)) (by simp) (fun x hx M2 hM => ?_) ?_
  · rcases List.mem_cons.mp hx with rfl | hx
    · walk_at "q"
    · rcases List.mem_singleton.mp hx with rfl
      walk_at "q"
  · walk_at "q"
    exact ⟨_, rfl, k⟩

/-! _law_sides -/
def sp__law_sides : SpQ := fun xs M Q _ => ∃ (t : Nat) (s : Int), xs = [.int t, .int s] ∧ (t < 10 ^ 1000 ∧ -600 ≤ s ∧ s ≤ 600) ∧ Q (.tup [.int (sideH t s), .int (sideL 1 s)]) M
theorem sp__law_sides_len : ∀ xs M Q E, sp__law_sides xs M Q E → xs.length = 2 := fun xs M Q E ⟨_, _, h, _⟩ => by rw [h]; rfl
theorem ok__law_sides (T : Tx K mg) : FnQ P w K mg base 2 T.a__law_sides T.d__law_sides ["_law_top_here", "_law_shift"] sp__law_sides := by
  refine okQ T.F__law_sides sc__law_sides sp__law_sides_len (fun cdv A outer s0 H0 E hr => ?_)
  have tk := takes_of (X := cxOf (L2.CX P w) P w K mg base ["_law_top_here", "_law_shift"] "_law_sides" (defScope s__law_sides) T.a__law_sides cdv A outer s0 H0 E) (E := E) rfl rfl rfl rfl
  have po := passes_of (X := cxOf (L2.CX P w) P w K mg base ["_law_top_here", "_law_shift"] "_law_sides" (defScope s__law_sides) T.a__law_sides cdv A outer s0 H0 E) rfl
  refine ⟨_, (qss_one (qs_ret (qe_tup (qa_cons (qe_bin oq_mul (qv 0) (qe_call (ok__law_ten T) hr T.m__law_ten T.F__law_ten.kp T.b__law_ten tk (qa_cons (qe_callB (id := "max") (cq_max rfl) T.n_max (qa_cons (qv 1) (qa_cons qe_int qa_nil))) qa_nil))) (qa_cons (qe_call (ok__law_ten T) hr T.m__law_ten T.F__law_ten.kp T.b__law_ten tk (qa_cons (qe_callB (id := "max") (cq_max rfl) T.n_max (qa_cons (qe_bin oq_sub qe_int (qv 1)) (qa_cons qe_int qa_nil))) qa_nil)) qa_nil))))), ?_⟩
  clear tk po
  clear hr
  rintro xs M Q E ⟨t, s, rfl, ⟨ht, l1, l2⟩, k⟩
  walk_at "q"
  replace ht := pow10_lt_2 ht
  refine ⟨_, rfl, ⟨by omega, by omega⟩, ?_⟩
  walk_at "q"
  refine ⟨mul_ok_nat ht (pow10_16 _) (by omega), _, rfl, ⟨by omega, by omega⟩, ?_⟩
  walk_at "q"
  have e1 : (t : Int) * ((10 ^ (max s 0).toNat : Nat) : Int) = (sideH t s : Nat) := by
    unfold sideH; rw [Int.natCast_mul]; congr 3; omega
  have e2 : ((10 ^ (max (0 - s) 0).toNat : Nat) : Int) = (sideL 1 s : Nat) := by
    unfold sideL; rw [Nat.one_mul]; congr 2; omega
  rw [e1, e2]
  exact k

/-! _law_first_right -/
def sp__law_first_right : SpQ := fun xs M Q _ => ∃ (f : Int) (t : Nat) (s : Int), xs = [.int f, .int t, .int s] ∧ (1 ≤ t ∧ t < 10 ^ 100 ∧ f = rfst t s) ∧ Q (.bl true) M
theorem sp__law_first_right_len : ∀ xs M Q E, sp__law_first_right xs M Q E → xs.length = 3 := fun xs M Q E ⟨_, _, _, h, _⟩ => by rw [h]; rfl
theorem ok__law_first_right (T : Tx K mg) : FnQ P w K mg base 3 T.a__law_first_right T.d__law_first_right ["_law_found", "_law_top_here", "_law_ten_here"] sp__law_first_right := by
  refine okQ T.F__law_first_right sc__law_first_right sp__law_first_right_len (fun cdv A outer s0 H0 E hr => ?_)
  have tk := takes_of (X := cxOf (L2.CX P w) P w K mg base ["_law_found", "_law_top_here", "_law_ten_here", "_law_high", "_law_low"] "_law_first_right" (defScope s__law_first_right) T.a__law_first_right cdv A outer s0 H0 E) (E := E) rfl rfl rfl rfl
  have po := passes_of (X := cxOf (L2.CX P w) P w K mg base ["_law_found", "_law_top_here", "_law_ten_here", "_law_high", "_law_low"] "_law_first_right" (defScope s__law_first_right) T.a__law_first_right cdv A outer s0 H0 E) rfl
  refine ⟨_, (qss_cons (qs_if (qt_w (qw_or (qt_not (qt_val (qe_callB (id := "isinstance") (cq_isiK (K := K) rfl) T.n_isinstance (qa_cons (qv 0) (qa_cons (qe_ty (n := "int") T.n_int) qa_nil))))) (qw_one_or (qt_val (qe_callB (id := "isinstance") (cq_isiK (K := K) rfl) T.n_isinstance (qa_cons (qv 0) (qa_cons (qe_ty (n := "bool") T.n_bool) qa_nil)))))))
  (qss_one (qs_ret qe_bl))
  qss_nil)
  (qss_cons (qs_asg (qe_call (ok__law_sides T) hr T.m__law_sides T.F__law_sides.kp T.b__law_sides tk (qa_cons (qv 1) (qa_cons (qe_bin oq_sub (qv 2) (qe_bin oq_mul qe_int (qv 0))) qa_nil))) (qg_tup (n := 2) rfl (qgs_cons (qg_name (i := 3) sc__law_first_right.nd) (qgs_cons (qg_name (i := 4) sc__law_first_right.nd) qgs_nil))))
  (qss_one (qs_ret (qe_chain oq_le oq_lt (qv 4) (qv 3) (qe_bin oq_mul qe_int (qv 4))))))), ?_⟩
  clear tk po
  clear hr
  rintro xs M Q E ⟨f, t, s, rfl, ⟨h1, ht, rfl⟩, k⟩
  have hr := nd_le_of (by decide) ht
  have hp := nd_pos t
  have hs := rfst_spec s h1
  have hx : -200 ≤ s - 2 * rfst t s ∧ s - 2 * rfst t s ≤ 200 := by unfold rfst; clear ht hs; omega
  walk_at "q"
  generalize s - 2 * rfst t s = x at *
  refine ⟨by mul_fits, t, x, rfl, ⟨Nat.lt_of_lt_of_le ht (pow10_le (by decide)), by clear ht; omega, by clear ht; omega⟩, ?_⟩
  clear ht
  walk_at "q"
  refine iteP_t (by omega) ?_
  walk_at "q"
  refine ⟨by mul_fits, ?_⟩
  rw [decide_eq_true (by omega)]
  exact k

/-! _law_at_right -/
def sp__law_at_right : SpQ := fun xs M Q _ => ∃ (t : Nat) (s : Int), xs = [.tup [.int (isq (sideH t s / sideL 1 s) : Nat), .int (rprt (isq (sideH t s / sideL 1 s)) (sideH t s) (sideL 1 s))], .int t, .int s] ∧ (t < 10 ^ 100 ∧ -600 ≤ s ∧ s ≤ 600) ∧ Q (.bl true) M
theorem sp__law_at_right_len : ∀ xs M Q E, sp__law_at_right xs M Q E → xs.length = 3 := fun xs M Q E ⟨_, _, h, _⟩ => by rw [h]; rfl
theorem ok__law_at_right (T : Tx K mg) : FnQ P w K mg base 3 T.a__law_at_right T.d__law_at_right ["_law_found", "_law_top_here", "_law_shift"] sp__law_at_right := by
  refine okQ T.F__law_at_right sc__law_at_right sp__law_at_right_len (fun cdv A outer s0 H0 E hr => ?_)
  have tk := takes_of (X := cxOf (L2.CX P w) P w K mg base ["_law_found", "_law_top_here", "_law_shift", "_law_whole", "_law_part", "_law_high", "_law_low", "_law_middle", "_law_due"] "_law_at_right" (defScope s__law_at_right) T.a__law_at_right cdv A outer s0 H0 E) (E := E) rfl rfl rfl rfl
  have po := passes_of (X := cxOf (L2.CX P w) P w K mg base ["_law_found", "_law_top_here", "_law_shift", "_law_whole", "_law_part", "_law_high", "_law_low", "_law_middle", "_law_due"] "_law_at_right" (defScope s__law_at_right) T.a__law_at_right cdv A outer s0 H0 E) rfl
  refine ⟨_, (qss_cons (qs_if (qt_not (qt_val (qe_call (ok__law_pair T) (hr.mono (by decide)) T.m__law_pair T.F__law_pair.kp T.b__law_pair tk (qa_cons (qv 0) qa_nil))))
  (qss_one (qs_ret qe_bl))
  qss_nil)
  (qss_cons (qs_asg (qv 0) (qg_tup (n := 2) rfl (qgs_cons (qg_name (i := 3) sc__law_at_right.nd) (qgs_cons (qg_name (i := 4) sc__law_at_right.nd) qgs_nil))))
  (qss_cons (qs_asg (qe_call (ok__law_sides T) hr T.m__law_sides T.F__law_sides.kp T.b__law_sides tk (qa_cons (qv 1) (qa_cons (qv 2) qa_nil))) (qg_tup (n := 2) rfl (qgs_cons (qg_name (i := 5) sc__law_at_right.nd) (qgs_cons (qg_name (i := 6) sc__law_at_right.nd) qgs_nil))))
  (qss_cons (qs_if (qt_w (qw_or (qt_cmp oq_lt (qv 3) qe_int) (qw_one_or (qt_not (qt_chain oq_le oq_lt (qe_bin oq_mul (qe_bin oq_mul (qv 3) (qv 3)) (qv 6)) (qv 5) (qe_bin oq_mul (qe_bin oq_mul (qe_bin oq_add (qv 3) qe_int) (qe_bin oq_add (qv 3) qe_int)) (qv 6)))))))
  (qss_one (qs_ret qe_bl))
  qss_nil)
  (qss_cons (qs_set 7 sc__law_at_right.nd (qe_bin oq_mul (qe_bin oq_mul (qe_bin oq_add (qe_bin oq_mul qe_int (qv 3)) qe_int) (qe_bin oq_add (qe_bin oq_mul qe_int (qv 3)) qe_int)) (qv 6)))
  (qss_cons (qs_set 8 sc__law_at_right.nd (qe_bin oq_add (qe_bin oq_add qe_int (qe_callT (T := "int") cq_int T.n_int (qa_cons (qe_cmp oq_ge (qe_bin oq_mul qe_int (qv 5)) (qv 7)) qa_nil))) (qe_callT (T := "int") cq_int T.n_int (qa_cons (qe_cmp oq_gt (qe_bin oq_mul qe_int (qv 5)) (qv 7)) qa_nil))))
  (qss_one (qs_ret (qe_cmp (oq_eq hr.units) (qv 4) (qe_ix (qe_lst (qa_cons (qv 8) (qa_cons qe_int qa_nil))) (qe_callT (T := "int") cq_int T.n_int (qa_cons (qe_cmp (oq_eq hr.units) (qe_bin oq_mul (qe_bin oq_mul (qv 3) (qv 3)) (qv 6)) (qv 5)) qa_nil)))))))))))), ?_⟩
  clear tk po
  clear hr
  rintro xs M Q E ⟨t, s, rfl, ⟨ht, l1, l2⟩, k⟩
  walk_at "q"
  refine ⟨_, _, rfl, ?_⟩
  walk_at "q"
  refine ⟨t, _, rfl, ⟨Nat.lt_of_lt_of_le ht (pow10_le (by decide)), by clear ht; omega, by clear ht; omega⟩, ?_⟩
  have bH := side_bits (s := s) (n := 600) ht (by clear ht; omega)
  have bL := sideL_bits (b := 1) (k := 1) (s := s) (n := 600) (by decide) (by clear ht bH; omega)
  replace bH := pow10_lt_2 bH
  replace bL := pow10_lt_2 bL
  clear ht
  walk_at "q"
  have hp := sideL_pos (Nat.le_refl 1) s
  have hb := roots_between (H := sideH t s) hp
  generalize sideH t s = x at *
  generalize sideL 1 s = y at *
  have hq : x / y < 2 ^ (4 * (100 + 600) + 1) := Nat.lt_of_le_of_lt (Nat.div_le_self x y) bH
  have bw : isq (x / y) < 2 ^ (4 * (100 + 600) + 1) := Nat.lt_of_le_of_lt (isq_le _) hq
  generalize isq (x / y) = w at *
  have bw1 : w + 1 < 2 ^ (4 * (100 + 600) + 1 + 2) := by rw [Nat.pow_add]; generalize 2 ^ (4 * (100 + 600) + 1) = z at bw; omega
  have bm : 2 * w + 1 < 2 ^ (4 * (100 + 600) + 1 + 2) := by rw [Nat.pow_add]; generalize 2 ^ (4 * (100 + 600) + 1) = z at bw; omega
  have sqb : ∀ {a : Nat}, a < 2 ^ (4 * (100 + 600) + 1 + 2) → a * a < 2 ^ (4 * (100 + 600) + 1 + 2 + (4 * (100 + 600) + 1 + 2)) := fun {a} h => by
    rw [Nat.pow_add 2 (4 * (100 + 600) + 1 + 2)]
    exact Nat.mul_lt_mul_of_lt_of_le h (Nat.le_of_lt h) (by omega)
  have bww := sqb (a := w) (by clear bw; omega)
  have c0 : (w : Int) + 1 = ((w + 1 : Nat) : Int) := by omega
  have c1 : (2 : Int) * (w : Int) + 1 = ((2 * w + 1 : Nat) : Int) := by omega
  refine iteP_f (by omega) ?_
  walk_at "q"
  rw [← Int.natCast_mul w w]
  refine ⟨mul_ok_nat bw bw (by decide), mul_ok_nat bww bL (by decide), ?_⟩
  rw [← Int.natCast_mul]
  refine iteP_t (by omega) ?_
  walk_at "q"
  rw [c0, ← Int.natCast_mul (w + 1) (w + 1)]
  refine ⟨mul_ok_nat bw1 bw1 (by decide), mul_ok_nat (sqb bw1) bL (by decide), ?_⟩
  rw [← Int.natCast_mul]
  refine iteP_t (by omega) ?_
  walk_at "q"
  rw [c1, ← Int.natCast_mul (2 * w + 1) (2 * w + 1)]
  refine ⟨by mul_fits, by mul_fits, mul_ok_nat bm bm (by decide), mul_ok_nat (sqb bm) bL (by decide), by mul_fits, by mul_fits, ?_⟩
  try rw [← Int.natCast_mul ((2 * w + 1) * (2 * w + 1))]
  refine ⟨mul_ok_nat bw bw (by decide), mul_ok_nat bww bL (by decide), ?_⟩
  by_cases h : w * w * y = x
  · rw [if_pos (show ((w * w * y : Nat) : Int) = (x : Int) by omega)]
    walk_at "q"
    rw [rprt, if_pos h]
    exact k
  · rw [if_neg (show ¬ ((w * w * y : Nat) : Int) = (x : Int) by omega), rprt_sum h]
    walk_at "q"
    exact k

/-! law -/
abbrev sp_law : SpQ := sLaw
theorem sp_law_len : ∀ xs M Q E, sp_law xs M Q E → xs.length = 1 := fun xs M Q E ⟨_, h, _⟩ => by rw [h]; rfl
theorem ok_law (T : Tx K mg) : FnQ P w K mg base 5 T.a_law T.d_law ["_law_script"] sp_law := by
  refine okQ T.F_law sc_law sp_law_len (fun cdv A outer s0 H0 E hr => ?_)
  have tk := takes_of (X := cxOf (L2.CX P w) P w K mg base ["_law_script", "_law_number", "_law_side", "_law_more", "_law_top_here", "_law_far", "_law_ten_here", "_law_exact", "_law_first", "_law_asked", "_law_k", "_law_place", "_law_found", "_law_keyed", "_law_lone", "_law_one"] "law" (defScope s_law) T.a_law cdv A outer s0 H0 E) (E := E) rfl rfl rfl rfl
  have po := passes_of (X := cxOf (L2.CX P w) P w K mg base ["_law_script", "_law_number", "_law_side", "_law_more", "_law_top_here", "_law_far", "_law_ten_here", "_law_exact", "_law_first", "_law_asked", "_law_k", "_law_place", "_law_found", "_law_keyed", "_law_lone", "_law_one"] "law" (defScope s_law) T.a_law cdv A outer s0 H0 E) rfl
  refine ⟨_, (qss_cons (qs_set 1 sc_law.nd (qe_call (ok__law_mixed T) (hr.mono (by decide)) T.m__law_mixed T.F__law_mixed.kp T.b__law_mixed tk (qa_cons (qe_call (ok__law_cell_at T) (hr.mono (by decide)) T.m__law_cell_at T.F__law_cell_at.kp T.b__law_cell_at tk (qa_cons (qv 0) (qa_cons qe_int qa_nil))) (qa_cons qe_int qa_nil))))
  (qss_cons (qs_set 2 sc_law.nd (qe_call (ok__law_top T) (hr.mono (by decide)) T.m__law_top T.F__law_top.kp T.b__law_top tk (qa_cons (qe_call (ok__law_mixed T) (hr.mono (by decide)) T.m__law_mixed T.F__law_mixed.kp T.b__law_mixed tk (qa_cons (qe_call (ok__law_cell_at T) (hr.mono (by decide)) T.m__law_cell_at T.F__law_cell_at.kp T.b__law_cell_at tk (qa_cons (qv 0) (qa_cons qe_int qa_nil))) (qa_cons qe_int qa_nil))) qa_nil)))
  (qss_cons (qs_set 3 sc_law.nd (qe_bin oq_add (qe_bin oq_mul qe_int (qe_bin oq_mod (qe_bin oq_div (qv 1) qe_int) qe_int)) qe_int))
  (qss_cons (qs_set 4 sc_law.nd (qe_ix (qe_lst (qa_cons (qv 2) (qa_cons (qe_bin oq_mul (qv 2) (qv 2)) (qa_cons (qe_bin oq_add (qe_bin oq_mul (qv 2) (qv 2)) qe_int) (qa_cons (qe_callB (id := "max") (cq_max rfl) T.n_max (qa_cons qe_int (qa_cons (qe_bin oq_sub (qe_bin oq_mul (qv 2) (qv 2)) qe_int) qa_nil))) (qa_cons (qe_bin oq_mul (qv 3) (qv 3)) (qa_cons (qe_bin oq_mul (qv 2) qe_int) qa_nil))))))) (qe_bin oq_mod (qv 1) qe_int)))
  (qss_cons (qs_set 5 sc_law.nd (qe_bin oq_div (qv 1) qe_int))
  (qss_cons (qs_set 6 sc_law.nd (qe_ix (qe_lst (qa_cons qe_int (qa_cons (qe_neg qe_int) (qa_cons (qe_bin oq_sub (qe_bin oq_mod (qv 5) qe_int) qe_int) (qa_cons (qe_bin oq_sub (qe_bin oq_mod (qv 5) qe_int) qe_int) (qa_cons (qe_bin oq_sub (qe_bin oq_mod (qv 5) qe_int) qe_int) qa_nil)))))) (qe_bin oq_mod (qe_bin oq_div (qv 1) qe_int) qe_int)))
  (qss_cons (qs_set 7 sc_law.nd (qe_makeD (dvs := []) (dps := []) T.mk_Root (ok_Root___init__ T) (hr.mono (by decide)) T.m_Root T.b_Root_2 (fun _ => Reps.nil) tk (qa_cons (qv 4) (qa_cons (qv 6) qa_nil))))
  (qss_cons (qs_if (qt_w (qw_or (qt_not (qt_val (qe_callB (id := "isinstance") (cq_isiK (K := K) rfl) T.n_isinstance (qa_cons (qv 7) (qa_cons (qe_cls T.m_Exact) qa_nil))))) (qw_one_or (qt_not (qt_val (qe_call (ok__law_first_right T) (hr.mono (by decide)) T.m__law_first_right T.F__law_first_right.kp T.b__law_first_right tk (qa_cons (qe_meth0 (qv 7) T.i_Root.cl T.M_Root_first (ok_Root_first T) (hr.mono (by decide)) T.b_Root_first tk) (qa_cons (qv 4) (qa_cons (qv 6) qa_nil)))))))))
  (qss_one (qs_ret qe_bl))
  qss_nil)
  (qss_cons (qs_set 8 sc_law.nd (qe_meth0 (qv 7) T.i_Root.cl T.M_Root_first (ok_Root_first T) (hr.mono (by decide)) T.b_Root_first tk))
  (qss_cons (qs_set 9 sc_law.nd (qe_lstM qa_nil))
  (qss_cons (qs_forR1 po rfl T.n_range (qa_cons qe_int qa_nil) (qg_name (i := 10) sc_law.nd)
  (qss_cons (qs_set 3 sc_law.nd (qe_call (ok__law_mixed T) (hr.mono (by decide)) T.m__law_mixed T.F__law_mixed.kp T.b__law_mixed tk (qa_cons (qe_call (ok__law_cell_at T) (hr.mono (by decide)) T.m__law_cell_at T.F__law_cell_at.kp T.b__law_cell_at tk (qa_cons (qv 0) (qa_cons (qe_bin oq_add qe_int (qv 10)) qa_nil))) (qa_cons (qe_bin oq_add qe_int (qv 10)) qa_nil))))
  (qss_cons (qs_set 11 sc_law.nd (qe_bin oq_sub (qv 8) (qe_ix (qe_lst (qa_cons qe_int (qa_cons (qe_bin oq_mod (qe_bin oq_div (qv 3) qe_int) qe_int) (qa_cons (qe_bin oq_mod (qe_bin oq_div (qv 3) qe_int) qe_int) (qa_cons (qe_bin oq_sub qe_int (qe_bin oq_mod (qe_bin oq_div (qv 3) qe_int) qe_int)) (qa_cons (qe_bin oq_mod (qe_bin oq_div (qv 3) qe_int) qe_int) (qa_cons qe_int qa_nil))))))) (qe_bin oq_mod (qv 3) qe_int))))
  (qss_cons (qs_if (qt_cmp (oq_eq hr.units) (qe_bin oq_mod (qv 3) qe_int) qe_int)
  (qss_one (qs_set 11 sc_law.nd (qe_bin oq_add (qe_bin oq_div (qv 6) qe_int) (qe_bin oq_mod (qe_bin oq_div (qv 3) qe_int) qe_int))))
  qss_nil)
  (qss_cons (qs_set 12 sc_law.nd (qe_meth (qv 7) T.i_Root.cl T.M_Root_at (ok_Root_at T) hr T.b_Root_at tk (qa_cons (qv 11) qa_nil)))
  (qss_cons (qs_if (qt_not (qt_val (qe_call (ok__law_at_right T) (hr.mono (by decide)) T.m__law_at_right T.F__law_at_right.kp T.b__law_at_right tk (qa_cons (qv 12) (qa_cons (qv 4) (qa_cons (qe_bin oq_sub (qv 6) (qe_bin oq_mul qe_int (qv 11))) qa_nil))))))
  (qss_one (qs_ret qe_bl))
  qss_nil)
  (qss_one (qs_expr (qe_app (qv 9) (qe_tup (qa_cons (qv 11) (qa_cons (qv 12) qa_nil))))))))))))
  (qss_cons (qs_set 13 sc_law.nd (qe_makeK (ks := ["power"]) (n := 1) T.mk_Root (ok_Root___init__ T) (hr.mono (by decide)) T.m_Root T.kb_Root_1_power kp_Root_1_power tk (qa_cons (qv 4) qa_nil) (qk_cons (qv 6) qk_nil)))
  (qss_cons (qs_if (qt_w (qw_or (qt_cmp (oq_ne hr.units) (qe_meth0 (qv 13) T.i_Root.cl T.M_Root_first (ok_Root_first T) (hr.mono (by decide)) T.b_Root_first tk) (qv 8)) (qw_one_or (qt_cmp (oq_ne hr.units) (qe_meth (qv 13) T.i_Root.cl T.M_Root_at (ok_Root_at T) hr T.b_Root_at tk (qa_cons (qv 8) qa_nil)) (qe_meth (qv 7) T.i_Root.cl T.M_Root_at (ok_Root_at T) hr T.b_Root_at tk (qa_cons (qv 8) qa_nil))))))
  (qss_one (qs_ret qe_bl))
  qss_nil)
  (qss_cons (qs_set 14 sc_law.nd (qe_makeD (dvs := [V.int 0]) (dps := [PV.int 0]) T.mk_Root (ok_Root___init__ T) (hr.mono (by decide)) T.m_Root T.b_Root_1 (fun _ => Reps.cons (x := .int 0) rfl (Reps.nil)) tk (qa_cons (qv 4) qa_nil)))
  (qss_cons (qs_if (qt_w (qw_or (qt_not (qt_val (qe_call (ok__law_first_right T) (hr.mono (by decide)) T.m__law_first_right T.F__law_first_right.kp T.b__law_first_right tk (qa_cons (qe_meth0 (qv 14) T.i_Root.cl T.M_Root_first (ok_Root_first T) (hr.mono (by decide)) T.b_Root_first tk) (qa_cons (qv 4) (qa_cons qe_int qa_nil)))))) (qw_one_or (qt_not (qt_val (qe_call (ok__law_at_right T) (hr.mono (by decide)) T.m__law_at_right T.F__law_at_right.kp T.b__law_at_right tk (qa_cons (qe_meth (qv 14) T.i_Root.cl T.M_Root_at (ok_Root_at T) hr T.b_Root_at tk (qa_cons qe_int qa_nil)) (qa_cons (qv 4) (qa_cons qe_int qa_nil)))))))))
  (qss_one (qs_ret qe_bl))
  qss_nil)
  (qss_one (qs_ret (qe_and (qe_cmp (oq_eq hr.units) (qe_meth0 (qv 7) T.i_Root.cl T.M_Root_first (ok_Root_first T) (hr.mono (by decide)) T.b_Root_first tk) (qv 8)) (qe_one (qe_cmp (oq_eq hr.units) (qe_lcL (own := [("_law_one", 15)]) (j := 15) rfl sc_law.nd (qv 9) (by decide) (blkOk_by (own := [("_law_one", 15)]) (N := ["_law_script", "_law_number", "_law_side", "_law_more", "_law_top_here", "_law_far", "_law_ten_here", "_law_exact", "_law_first", "_law_asked", "_law_k", "_law_place", "_law_found", "_law_keyed", "_law_lone", "_law_one"]) (sc := defScope s_law) (by decide +kernel)) (fun _ _ _ _ _ => pg_name (i := 15) sc_law.nd rfl (Or.inl rfl)) (fun _ _ _ _ _ => (qts_one (qt_cmp (oq_ne hr.units) (qe_meth (qv 7) T.i_Root.cl T.M_Root_at (ok_Root_at T) hr T.b_Root_at takes0 (qa_cons (qe_ix (qv 15) qe_int) qa_nil)) (qe_ix (qv 15) qe_int)))) (fun _ _ _ _ _ => (qv 15))) (qe_lst qa_nil))))))))))))))))))))), ?_⟩
  clear tk po
  clear hr
  rintro xs M Q E ⟨ns, rfl, hl, k⟩
  walk_at "q"
  refine ⟨ns, 0, rfl, by decide, ?_⟩
  walk_at "q"
  refine ⟨_, 1, rfl, by decide, ?_⟩
  walk_at "q"
  have hnum := mixed_range (cell ns 0) 1
  generalize mixed (cell ns 0) 1 = num at *
  refine ⟨ns, 1, rfl, by decide, ?_⟩
  walk_at "q"
  refine ⟨_, 2, rfl, by decide, ?_⟩
  walk_at "q"
  have htop := mixed_range (cell ns 1) 2
  refine ⟨_, rfl, by omega, fun t ht0 ht1 M1 _ => ?_⟩
  walk_at "q"
  have ts1 : t * t < 10 ^ 30 * 10 ^ 30 := Nat.mul_lt_mul_of_lt_of_le ht1 (Nat.le_of_lt ht1) (by decide)
  have tsz : t * 1 ≤ t * t := Nat.mul_le_mul_left t ht0
  have bt := pow10_lt_2 ht1
  have hm0 : 0 ≤ num / 9 % 100000 ∧ num / 9 % 100000 < 100000 := ⟨Int.emod_nonneg _ (by decide), Int.emod_lt_of_pos _ (by decide)⟩
  have hm1 : (10 * (num / 9 % 100000) + 5) * (10 * (num / 9 % 100000) + 5) ≤ 1000000 * (10 * (num / 9 % 100000) + 5) := Int.mul_le_mul_of_nonneg_right (by omega) (by omega)
  have hm2 : 5 * (10 * (num / 9 % 100000) + 5) ≤ (10 * (num / 9 % 100000) + 5) * (10 * (num / 9 % 100000) + 5) := Int.mul_le_mul_of_nonneg_right (by omega) (by omega)
  have hm3 : 5 ≤ 10 * (num / 9 % 100000) + 5 ∧ 10 * (num / 9 % 100000) + 5 ≤ 1000000 := by omega
  generalize 10 * (num / 9 % 100000) + 5 = mr at *
  rw [← Int.natCast_mul]
  refine ⟨by mul_fits, by mul_fits, mul_ok_nat bt bt (by decide), mul_ok_nat bt bt (by decide), mul_ok_nat bt bt (by decide), by mul_fits, by mul_fits, ?_⟩
  obtain ⟨v, hv, e⟩ := atI_mem (xs := [PV.int t, PV.int ((t * t : Nat) : Int), PV.int (((t * t : Nat) : Int) + 1), PV.int (max 1 (((t * t : Nat) : Int) - 1)), PV.int (mr * mr), PV.int ((t : Int) * 10)]) (i := num % 6) (by omega) (by simp only [List.length_cons, List.length_nil]; omega)
  rw [e]
  have hv : ∃ b : Nat, v = .int b ∧ 1 ≤ b ∧ b < 10 ^ 61 := by
    have fin : ∀ i : Int, 1 ≤ i → i < 10 ^ 61 → ∃ b : Nat, PV.int i = .int b ∧ 1 ≤ b ∧ b < 10 ^ 61 := fun i h1 h2 => ⟨i.toNat, by rw [Int.toNat_of_nonneg (by omega)], by omega, by omega⟩
    simp only [List.mem_cons, List.not_mem_nil, or_false] at hv
    rcases hv with rfl | rfl | rfl | rfl | rfl | rfl
    all_goals exact fin _ (by omega) (by omega)
  obtain ⟨b, rfl, hb0, hb1⟩ := hv
  clear ts1 tsz bt hm1 hm2 hm0 ht0 ht1
  walk_at "q"
  refine ⟨by mul_fits, by mul_fits, ?_⟩
  obtain ⟨v, hv, e⟩ := atI_mem (xs := [PV.int 0, PV.int (-2), PV.int (num / 18 % 41 - 20), PV.int (num / 18 % 401 - 200), PV.int (num / 18 % 1801 - 900)]) (i := num / 6 % 5) (by omega) (by simp only [List.length_cons, List.length_nil]; omega)
  rw [e]
  have hv : ∃ s : Int, v = .int s ∧ -900 ≤ s ∧ s ≤ 900 := by
    simp only [List.mem_cons, List.not_mem_nil, or_false] at hv
    rcases hv with rfl | rfl | rfl | rfl | rfl
    · exact ⟨_, rfl, by decide, by decide⟩
    · exact ⟨_, rfl, by decide, by decide⟩
    · exact ⟨_, rfl, by omega, by omega⟩
    · exact ⟨_, rfl, by omega, by omega⟩
    · exact ⟨_, rfl, by omega, by omega⟩
  obtain ⟨s, rfl, hs0, hs1⟩ := hv
  clear e
  have hb2 : b < 10 ^ 100 := Nat.lt_trans hb1 (by decide)
  have hb3 : b < 10 ^ 1000 := Nat.lt_trans hb1 (pow10_lt (by decide))
  have hd := nd_le_of (by decide) hb1
  have hd0 := nd_pos b
  clear hb1
  have hf : rfst b s = ((nd b : Int) - 1 + s) / 2 := rfl
  generalize nd b = z at *
  walk_at "q"
  refine ⟨b, s, rfl, hb3, ?_⟩
  walk_at "q"
  refine ⟨_, b, s, rfl, ⟨hb0, hb2, rfl⟩, ?_⟩
  walk_at "q"
  refine ⟨b, s, rfl, hb3, ?_⟩
  walk_at "q"
  refine ⟨len_ok (by decide), ?_⟩
  refine lstP_of fun p hp => ?_
  walk_at "q"
  refine rngP_of (by decide) (fun i env M' => ∃ (ys : List PV) (o1 o2 o3 o4 : Option PV), env = [some (.scr ns), some (.int num), some (.int t), o1, some (.int b), some (.int (num / 18)), some (.int s), some (roo T.c_Root b s), some (.int (rfst b s)), some (.ref p), o2, o3, o4, none, none, none] ∧
    M' p = some (.lst ys) ∧ ys.length ≤ i ∧ ∀ y ∈ ys, ∃ q : Int, -150 ≤ s - 2 * q ∧ s - 2 * q ≤ 250 ∧ y = .tup [.int q, .tup [.int (isq (sideH b (s - 2 * q) / sideL 1 (s - 2 * q)) : Nat), .int (rprt (isq (sideH b (s - 2 * q) / sideL 1 (s - 2 * q))) (sideH b (s - 2 * q)) (sideL 1 (s - 2 * q)))]]) ?_ ?_ ?_
  · exact ⟨[], some (.int mr), none, none, none, rfl, mset_same, by decide, fun y hy => by cases hy⟩
  · rintro i env M' hi ⟨ys, o1, o2, o3, o4, rfl, hM, hlen, hys⟩
    walk_at "s"
    refine ⟨ns, _, rfl, by omega, ?_⟩
    walk_at "s"
    refine ⟨_, _, rfl, by omega, ?_⟩
    walk_at "s"
    have hmo := mixed_range (cell ns (3 + i)) (4 + i)
    generalize mixed (cell ns (3 + i)) (4 + i) = mo at *
    refine ⟨by mul_fits, by mul_fits, by mul_fits, by mul_fits, ?_⟩
    obtain ⟨v, hv, e⟩ := atI_mem (xs := [PV.int 0, PV.int (mo / 6 % 4), PV.int (mo / 6 % 26), PV.int (0 - mo / 6 % 3), PV.int (mo / 6 % 50), PV.int 0]) (i := mo % 6) (by omega) (by simp only [List.length_cons, List.length_nil]; omega)
    rw [e]
    have hv : ∃ d : Int, v = .int d ∧ -2 ≤ d ∧ d ≤ 49 := by
      simp only [List.mem_cons, List.not_mem_nil, or_false] at hv
      rcases hv with rfl | rfl | rfl | rfl | rfl | rfl
      · exact ⟨_, rfl, by decide, by decide⟩
      · exact ⟨_, rfl, by omega, by omega⟩
      · exact ⟨_, rfl, by omega, by omega⟩
      · exact ⟨_, rfl, by omega, by omega⟩
      · exact ⟨_, rfl, by omega, by omega⟩
      · exact ⟨_, rfl, by decide, by decide⟩
    obtain ⟨d, rfl, hd0, hd1⟩ := hv
    walk_at "s"
    refine seq_cut (fun env M2 => M2 = M' ∧ ∃ q : Int, env = [some (.scr ns), some (.int num), some (.int t), some (.int mo), some (.int b), some (.int (num / 18)), some (.int s), some (roo T.c_Root b s), some (.int (rfst b s)), some (.ref p), some (.int i), some (.int q), o4, none, none, none] ∧ -150 ≤ s - 2 * q ∧ s - 2 * q ≤ 250) (fun R hR => ?_) ?_
    · walk_at "s"
      refine iteP_of (fun _ => ?_) (fun _ => ?_)
      · walk_at "s"
        exact ⟨by mul_fits, by mul_fits, hR _ _ ⟨rfl, _, rfl, by omega, by omega⟩⟩
      · walk_at "s"
        exact hR _ _ ⟨rfl, _, rfl, by omega, by omega⟩
    rintro _ _ ⟨rfl, q, rfl, hq0, hq1⟩
    walk_at "q"
    refine ⟨b, s, q, rfl, ⟨hb3, by omega, by omega⟩, ?_⟩
    walk_at "q"
    refine ⟨by mul_fits, b, _, rfl, ⟨hb2, by omega, by omega⟩, ?_⟩
    walk_at "q"
    refine app1_ref hM ?_
    walk_at "q"
    refine app2_ref hM (len_lt (by omega)) ?_
    walk_at "q"
    refine ⟨_, _, _, _, _, rfl, rfl, by rw [List.length_append, List.length_singleton]; omega, fun y hy => ?_⟩
    rcases List.mem_append.mp hy with hy | hy
    · exact hys y hy
    · rcases List.mem_singleton.mp hy with rfl
      exact ⟨q, by omega, by omega, rfl⟩
  · rintro env M' ⟨ys, o1, o2, o3, o4, rfl, hM, hlen, hys⟩
    walk_at "q"
    refine ⟨b, s, rfl, hb3, ?_⟩
    walk_at "q"
    refine ⟨b, s, _, rfl, ⟨hb3, by omega, by omega⟩, ?_⟩
    walk_at "q"
    refine ⟨b, s, _, rfl, ⟨hb3, by omega, by omega⟩, ?_⟩
    walk_at "q"
    refine ⟨b, 0, rfl, hb3, ?_⟩
    walk_at "q"
    refine ⟨_, b, 0, rfl, ⟨hb0, hb2, rfl⟩, ?_⟩
    walk_at "q"
    refine ⟨b, 0, 0, rfl, ⟨hb3, by omega, by omega⟩, ?_⟩
    walk_at "q"
    refine ⟨b, 0, rfl, ⟨hb2, by omega, by omega⟩, ?_⟩
    walk_at "q"
    refine ⟨b, s, rfl, hb3, ?_⟩
    walk_at "q"
    rw [sqA_ref hM]
    refine lcL_of (fun _ => none) (by omega) (fun y hy M2 hM2 => ?_) ?_
    · obtain ⟨q, hx0, hx1, rfl⟩ := hys y hy
      walk_at "q"
      refine ⟨b, s, _, rfl, ⟨hb3, by omega, by omega⟩, ?_⟩
      walk_at "q"
    · walk_at "q"
      have e : ys.filterMap (fun _ => (none : Option PV)) = [] := by
        induction ys with
        | nil => rfl
        | cons y ys ih => simp
      rw [e]
      walk_at "q"
      exact k _

end
theorem all_mk {P : Program} {w : World} {K : PySem.W.Frag} {h : Heap} {mg : Str → Option Value} {fa : Addr} (X : K.In h) (G : h.Ns mainGlobals mg) (hfa : mg "law" = some (.ref fa))
    {od_ten_to an_ten_to : Option Addr} {sl_ten_to : Array (Option Value)} {oc_ten_to kV_ten_to dc_ten_to pm_ten_to cd_ten_to ct_ten_to : Value}
    {a_ten_to : Addr}
    {od_count_of an_count_of : Option Addr} {sl_count_of : Array (Option Value)} {oc_count_of kV_count_of dc_count_of pm_count_of cd_count_of ct_count_of : Value}
    {a_count_of : Addr}
    {od_root_below an_root_below : Option Addr} {sl_root_below : Array (Option Value)} {oc_root_below kV_root_below dc_root_below pm_root_below cd_root_below ct_root_below : Value}
    {a_root_below : Addr}
    {od_Root___init__ an_Root___init__ : Option Addr} {sl_Root___init__ : Array (Option Value)} {oc_Root___init__ kV_Root___init__ dc_Root___init__ pm_Root___init__ cd_Root___init__ ct_Root___init__ : Value}
    {a_Root___init__ : Addr}
    {T_Root___init__ : Addr} {Tcls_Root___init__ : Value} {Td_Root___init__ : Option Addr} {Tn_Root___init__ : Nat} {Tsl_Root___init__ : Array (Option Value)} {tk0_Root___init__ : Tok}
    {od_Root_first an_Root_first : Option Addr} {sl_Root_first : Array (Option Value)} {oc_Root_first kV_Root_first dc_Root_first pm_Root_first cd_Root_first ct_Root_first : Value}
    {a_Root_first : Addr}
    {od_Root_at an_Root_at : Option Addr} {sl_Root_at : Array (Option Value)} {oc_Root_at kV_Root_at dc_Root_at pm_Root_at cd_Root_at ct_Root_at : Value}
    {a_Root_at : Addr}
    {od__law_cell_at an__law_cell_at : Option Addr} {sl__law_cell_at : Array (Option Value)} {oc__law_cell_at kV__law_cell_at dc__law_cell_at pm__law_cell_at cd__law_cell_at ct__law_cell_at : Value}
    {a__law_cell_at : Addr}
    {od__law_mixed an__law_mixed : Option Addr} {sl__law_mixed : Array (Option Value)} {oc__law_mixed kV__law_mixed dc__law_mixed pm__law_mixed cd__law_mixed ct__law_mixed : Value}
    {a__law_mixed : Addr}
    {od__law_ten an__law_ten : Option Addr} {sl__law_ten : Array (Option Value)} {oc__law_ten kV__law_ten dc__law_ten pm__law_ten cd__law_ten ct__law_ten : Value}
    {a__law_ten : Addr}
    {od__law_top an__law_top : Option Addr} {sl__law_top : Array (Option Value)} {oc__law_top kV__law_top dc__law_top pm__law_top cd__law_top ct__law_top : Value}
    {a__law_top : Addr}
    {od__law_pair an__law_pair : Option Addr} {sl__law_pair : Array (Option Value)} {oc__law_pair kV__law_pair dc__law_pair pm__law_pair cd__law_pair ct__law_pair : Value}
    {a__law_pair : Addr}
    {od__law_sides an__law_sides : Option Addr} {sl__law_sides : Array (Option Value)} {oc__law_sides kV__law_sides dc__law_sides pm__law_sides cd__law_sides ct__law_sides : Value}
    {a__law_sides : Addr}
    {od__law_first_right an__law_first_right : Option Addr} {sl__law_first_right : Array (Option Value)} {oc__law_first_right kV__law_first_right dc__law_first_right pm__law_first_right cd__law_first_right ct__law_first_right : Value}
    {a__law_first_right : Addr}
    {od__law_at_right an__law_at_right : Option Addr} {sl__law_at_right : Array (Option Value)} {oc__law_at_right kV__law_at_right dc__law_at_right pm__law_at_right cd__law_at_right ct__law_at_right : Value}
    {a__law_at_right : Addr}
    {od_law an_law : Option Addr} {sl_law : Array (Option Value)} {oc_law kV_law dc_law pm_law cd_law ct_law : Value}
    {a_law : Addr}
    {c_Exact : Addr}
    {c_Root : Addr}
    (h_a_ten_to : PySem.W.nsIn K mainGlobals "ten_to" = some (some (.ref a_ten_to)))
    (h_l_ten_to : K.lookup a_ten_to = some ⟨oc_ten_to, od_ten_to, .func (PySem.W.fnOf "ten_to" "ten_to" (defArgs s_ten_to) (defBody s_ten_to) (defScope s_ten_to) .none kV_ten_to dc_ten_to pm_ten_to an_ten_to cd_ten_to ct_ten_to), sl_ten_to⟩)
    (h_c_ten_to : PySem.W.codeIn K cd_ten_to "ten_to" = true)
    (h_k_ten_to : PySem.W.keepIn K (.ref a_ten_to) = true)
    (h_a_count_of : PySem.W.nsIn K mainGlobals "count_of" = some (some (.ref a_count_of)))
    (h_l_count_of : K.lookup a_count_of = some ⟨oc_count_of, od_count_of, .func (PySem.W.fnOf "count_of" "count_of" (defArgs s_count_of) (defBody s_count_of) (defScope s_count_of) .none kV_count_of dc_count_of pm_count_of an_count_of cd_count_of ct_count_of), sl_count_of⟩)
    (h_c_count_of : PySem.W.codeIn K cd_count_of "count_of" = true)
    (h_k_count_of : PySem.W.keepIn K (.ref a_count_of) = true)
    (h_a_root_below : PySem.W.nsIn K mainGlobals "root_below" = some (some (.ref a_root_below)))
    (h_l_root_below : K.lookup a_root_below = some ⟨oc_root_below, od_root_below, .func (PySem.W.fnOf "root_below" "root_below" (defArgs s_root_below) (defBody s_root_below) (defScope s_root_below) .none kV_root_below dc_root_below pm_root_below an_root_below cd_root_below ct_root_below), sl_root_below⟩)
    (h_c_root_below : PySem.W.codeIn K cd_root_below "root_below" = true)
    (h_k_root_below : PySem.W.keepIn K (.ref a_root_below) = true)
    (h_l_Root___init__ : K.lookup a_Root___init__ = some ⟨oc_Root___init__, od_Root___init__, .func (PySem.W.fnOf "__init__" "Root.__init__" (defArgs s_Root___init__) (defBody s_Root___init__) (defScope s_Root___init__) (.ref T_Root___init__) kV_Root___init__ dc_Root___init__ pm_Root___init__ an_Root___init__ cd_Root___init__ ct_Root___init__), sl_Root___init__⟩)
    (h_c_Root___init__ : PySem.W.codeIn K cd_Root___init__ "Root.__init__" = true)
    (h_k_Root___init__ : PySem.W.keepIn K (.ref a_Root___init__) = true)
    (h_T_Root___init__ : K.lookup T_Root___init__ = some ⟨Tcls_Root___init__, Td_Root___init__, .seq #[(.int 0 tk0_Root___init__)] Tn_Root___init__, Tsl_Root___init__⟩)
    (h_l_Root_first : K.lookup a_Root_first = some ⟨oc_Root_first, od_Root_first, .func (PySem.W.fnOf "first" "Root.first" (defArgs s_Root_first) (defBody s_Root_first) (defScope s_Root_first) .none kV_Root_first dc_Root_first pm_Root_first an_Root_first cd_Root_first ct_Root_first), sl_Root_first⟩)
    (h_c_Root_first : PySem.W.codeIn K cd_Root_first "Root.first" = true)
    (h_k_Root_first : PySem.W.keepIn K (.ref a_Root_first) = true)
    (h_l_Root_at : K.lookup a_Root_at = some ⟨oc_Root_at, od_Root_at, .func (PySem.W.fnOf "at" "Root.at" (defArgs s_Root_at) (defBody s_Root_at) (defScope s_Root_at) .none kV_Root_at dc_Root_at pm_Root_at an_Root_at cd_Root_at ct_Root_at), sl_Root_at⟩)
    (h_c_Root_at : PySem.W.codeIn K cd_Root_at "Root.at" = true)
    (h_k_Root_at : PySem.W.keepIn K (.ref a_Root_at) = true)
    (h_a__law_cell_at : PySem.W.nsIn K mainGlobals "_law_cell_at" = some (some (.ref a__law_cell_at)))
    (h_l__law_cell_at : K.lookup a__law_cell_at = some ⟨oc__law_cell_at, od__law_cell_at, .func (PySem.W.fnOf "_law_cell_at" "_law_cell_at" (defArgs s__law_cell_at) (defBody s__law_cell_at) (defScope s__law_cell_at) .none kV__law_cell_at dc__law_cell_at pm__law_cell_at an__law_cell_at cd__law_cell_at ct__law_cell_at), sl__law_cell_at⟩)
    (h_c__law_cell_at : PySem.W.codeIn K cd__law_cell_at "_law_cell_at" = true)
    (h_k__law_cell_at : PySem.W.keepIn K (.ref a__law_cell_at) = true)
    (h_a__law_mixed : PySem.W.nsIn K mainGlobals "_law_mixed" = some (some (.ref a__law_mixed)))
    (h_l__law_mixed : K.lookup a__law_mixed = some ⟨oc__law_mixed, od__law_mixed, .func (PySem.W.fnOf "_law_mixed" "_law_mixed" (defArgs s__law_mixed) (defBody s__law_mixed) (defScope s__law_mixed) .none kV__law_mixed dc__law_mixed pm__law_mixed an__law_mixed cd__law_mixed ct__law_mixed), sl__law_mixed⟩)
    (h_c__law_mixed : PySem.W.codeIn K cd__law_mixed "_law_mixed" = true)
    (h_k__law_mixed : PySem.W.keepIn K (.ref a__law_mixed) = true)
    (h_a__law_ten : PySem.W.nsIn K mainGlobals "_law_ten" = some (some (.ref a__law_ten)))
    (h_l__law_ten : K.lookup a__law_ten = some ⟨oc__law_ten, od__law_ten, .func (PySem.W.fnOf "_law_ten" "_law_ten" (defArgs s__law_ten) (defBody s__law_ten) (defScope s__law_ten) .none kV__law_ten dc__law_ten pm__law_ten an__law_ten cd__law_ten ct__law_ten), sl__law_ten⟩)
    (h_c__law_ten : PySem.W.codeIn K cd__law_ten "_law_ten" = true)
    (h_k__law_ten : PySem.W.keepIn K (.ref a__law_ten) = true)
    (h_a__law_top : PySem.W.nsIn K mainGlobals "_law_top" = some (some (.ref a__law_top)))
    (h_l__law_top : K.lookup a__law_top = some ⟨oc__law_top, od__law_top, .func (PySem.W.fnOf "_law_top" "_law_top" (defArgs s__law_top) (defBody s__law_top) (defScope s__law_top) .none kV__law_top dc__law_top pm__law_top an__law_top cd__law_top ct__law_top), sl__law_top⟩)
    (h_c__law_top : PySem.W.codeIn K cd__law_top "_law_top" = true)
    (h_k__law_top : PySem.W.keepIn K (.ref a__law_top) = true)
    (h_a__law_pair : PySem.W.nsIn K mainGlobals "_law_pair" = some (some (.ref a__law_pair)))
    (h_l__law_pair : K.lookup a__law_pair = some ⟨oc__law_pair, od__law_pair, .func (PySem.W.fnOf "_law_pair" "_law_pair" (defArgs s__law_pair) (defBody s__law_pair) (defScope s__law_pair) .none kV__law_pair dc__law_pair pm__law_pair an__law_pair cd__law_pair ct__law_pair), sl__law_pair⟩)
    (h_c__law_pair : PySem.W.codeIn K cd__law_pair "_law_pair" = true)
    (h_k__law_pair : PySem.W.keepIn K (.ref a__law_pair) = true)
    (h_a__law_sides : PySem.W.nsIn K mainGlobals "_law_sides" = some (some (.ref a__law_sides)))
    (h_l__law_sides : K.lookup a__law_sides = some ⟨oc__law_sides, od__law_sides, .func (PySem.W.fnOf "_law_sides" "_law_sides" (defArgs s__law_sides) (defBody s__law_sides) (defScope s__law_sides) .none kV__law_sides dc__law_sides pm__law_sides an__law_sides cd__law_sides ct__law_sides), sl__law_sides⟩)
    (h_c__law_sides : PySem.W.codeIn K cd__law_sides "_law_sides" = true)
    (h_k__law_sides : PySem.W.keepIn K (.ref a__law_sides) = true)
    (h_a__law_first_right : PySem.W.nsIn K mainGlobals "_law_first_right" = some (some (.ref a__law_first_right)))
    (h_l__law_first_right : K.lookup a__law_first_right = some ⟨oc__law_first_right, od__law_first_right, .func (PySem.W.fnOf "_law_first_right" "_law_first_right" (defArgs s__law_first_right) (defBody s__law_first_right) (defScope s__law_first_right) .none kV__law_first_right dc__law_first_right pm__law_first_right an__law_first_right cd__law_first_right ct__law_first_right), sl__law_first_right⟩)
    (h_c__law_first_right : PySem.W.codeIn K cd__law_first_right "_law_first_right" = true)
    (h_k__law_first_right : PySem.W.keepIn K (.ref a__law_first_right) = true)
    (h_a__law_at_right : PySem.W.nsIn K mainGlobals "_law_at_right" = some (some (.ref a__law_at_right)))
    (h_l__law_at_right : K.lookup a__law_at_right = some ⟨oc__law_at_right, od__law_at_right, .func (PySem.W.fnOf "_law_at_right" "_law_at_right" (defArgs s__law_at_right) (defBody s__law_at_right) (defScope s__law_at_right) .none kV__law_at_right dc__law_at_right pm__law_at_right an__law_at_right cd__law_at_right ct__law_at_right), sl__law_at_right⟩)
    (h_c__law_at_right : PySem.W.codeIn K cd__law_at_right "_law_at_right" = true)
    (h_k__law_at_right : PySem.W.keepIn K (.ref a__law_at_right) = true)
    (h_a_law : PySem.W.nsIn K mainGlobals "law" = some (some (.ref a_law)))
    (h_l_law : K.lookup a_law = some ⟨oc_law, od_law, .func (PySem.W.fnOf "law" "law" (defArgs s_law) (defBody s_law) (defScope s_law) .none kV_law dc_law pm_law an_law cd_law ct_law), sl_law⟩)
    (h_c_law : PySem.W.codeIn K cd_law "law" = true)
    (h_k_law : PySem.W.keepIn K (.ref a_law) = true)
    (h_n_Exact : PySem.W.nsIn K mainGlobals "Exact" = some (some (.ref c_Exact)))
    (h_n_Root : PySem.W.nsIn K mainGlobals "Root" = some (some (.ref c_Root)))
    (h_pg_Root : PySem.W.plainGet K c_Root Str.empty = true)
    (h_hd_Root : PySem.W.hasDictIn K c_Root = true)
    (h_po_Root : PySem.W.plainOver K c_Root = true)
    (h_sa_Root : PySem.W.findIn K (.ref c_Root) "__setattr__" = some (some (.builtin "object.__setattr__")))
    (h_ha_Root : PySem.W.findIn K (.ref c_Root) "__class__" = some (some (.builtin "object.__class__")))
    (h_hn_Root : PySem.W.specialIn K (.builtin "object.__class__") "__get__" = some (some (.builtin "getset_descriptor.__get__")))
    (h_htk_Root : PySem.W.takesIn K (.builtin "object.__class__") = some true)
    (h_hm_Root : PySem.W.mroIn K c_Root (.type "object") = some true)
    (h_mk_Root : PySem.W.makesIn K c_Root = true)
    (h_kc_Root : PySem.W.keepIn K (.ref c_Root) = true)
    (h_in_Root : PySem.W.findIn K (.ref c_Root) "__init__" = some (some (.ref a_Root___init__)))
    (h_if_Root : PySem.W.isFn K (.ref a_Root___init__) = true)
    (h_no_Root_square : PySem.W.findIn K (.ref c_Root) "square" = some none)
    (h_no_Root_scale : PySem.W.findIn K (.ref c_Root) "scale" = some none)
    (h_z_all : PySem.W.nsIn K mainGlobals "all" = some none)
    (h_z_bool : PySem.W.nsIn K mainGlobals "bool" = some none)
    (h_z_divmod : PySem.W.nsIn K mainGlobals "divmod" = some none)
    (h_z_int : PySem.W.nsIn K mainGlobals "int" = some none)
    (h_z_isinstance : PySem.W.nsIn K mainGlobals "isinstance" = some none)
    (h_z_len : PySem.W.nsIn K mainGlobals "len" = some none)
    (h_z_max : PySem.W.nsIn K mainGlobals "max" = some none)
    (h_z_range : PySem.W.nsIn K mainGlobals "range" = some none)
    (h_z_tuple : PySem.W.nsIn K mainGlobals "tuple" = some none)
    (h_M_Root_at : PySem.W.findIn K (.ref c_Root) "at" = some (some (.ref a_Root_at)))
    (h_Mi_Root_at : PySem.W.isFn K (.ref a_Root_at) = true)
    (h_M_Root_first : PySem.W.findIn K (.ref c_Root) "first" = some (some (.ref a_Root_first)))
    (h_Mi_Root_first : PySem.W.isFn K (.ref a_Root_first) = true)
    (h_ic_Exact : PySem.W.isClsIn K c_Exact = true)
    (h_it_Exact : PySem.W.typeIn K (.ref c_Exact) = some (.type "type"))
    (h_is_Root_Exact : PySem.W.subIn K (.ref c_Root) (.ref c_Exact) = some true)
    : ∃ fd : FuncData, (∀ (s : Shared) (v : Value), BindsTo s fd ⟨[v], []⟩ [("_law_script", v)]) ∧ ∀ base : Heap, K.In base → base.Ns mainGlobals mg → FnOk P w K mg base (L2.CX P w) 5 fa fd ["_law_script"] (spQ K sLaw) := by
  have e : fa = a_law := by
    have z := hfa.symm.trans (PySem.W.mg_of X G h_a_law)
    cases z
    rfl
  let d_ten_to : FuncData := PySem.W.fnOf "ten_to" "ten_to" (defArgs s_ten_to) (defBody s_ten_to) (defScope s_ten_to) .none kV_ten_to dc_ten_to pm_ten_to an_ten_to cd_ten_to ct_ten_to
  let d_count_of : FuncData := PySem.W.fnOf "count_of" "count_of" (defArgs s_count_of) (defBody s_count_of) (defScope s_count_of) .none kV_count_of dc_count_of pm_count_of an_count_of cd_count_of ct_count_of
  let d_root_below : FuncData := PySem.W.fnOf "root_below" "root_below" (defArgs s_root_below) (defBody s_root_below) (defScope s_root_below) .none kV_root_below dc_root_below pm_root_below an_root_below cd_root_below ct_root_below
  let d_Root___init__ : FuncData := PySem.W.fnOf "__init__" "Root.__init__" (defArgs s_Root___init__) (defBody s_Root___init__) (defScope s_Root___init__) (.ref T_Root___init__) kV_Root___init__ dc_Root___init__ pm_Root___init__ an_Root___init__ cd_Root___init__ ct_Root___init__
  let d_Root_first : FuncData := PySem.W.fnOf "first" "Root.first" (defArgs s_Root_first) (defBody s_Root_first) (defScope s_Root_first) .none kV_Root_first dc_Root_first pm_Root_first an_Root_first cd_Root_first ct_Root_first
  let d_Root_at : FuncData := PySem.W.fnOf "at" "Root.at" (defArgs s_Root_at) (defBody s_Root_at) (defScope s_Root_at) .none kV_Root_at dc_Root_at pm_Root_at an_Root_at cd_Root_at ct_Root_at
  let d__law_cell_at : FuncData := PySem.W.fnOf "_law_cell_at" "_law_cell_at" (defArgs s__law_cell_at) (defBody s__law_cell_at) (defScope s__law_cell_at) .none kV__law_cell_at dc__law_cell_at pm__law_cell_at an__law_cell_at cd__law_cell_at ct__law_cell_at
  let d__law_mixed : FuncData := PySem.W.fnOf "_law_mixed" "_law_mixed" (defArgs s__law_mixed) (defBody s__law_mixed) (defScope s__law_mixed) .none kV__law_mixed dc__law_mixed pm__law_mixed an__law_mixed cd__law_mixed ct__law_mixed
  let d__law_ten : FuncData := PySem.W.fnOf "_law_ten" "_law_ten" (defArgs s__law_ten) (defBody s__law_ten) (defScope s__law_ten) .none kV__law_ten dc__law_ten pm__law_ten an__law_ten cd__law_ten ct__law_ten
  let d__law_top : FuncData := PySem.W.fnOf "_law_top" "_law_top" (defArgs s__law_top) (defBody s__law_top) (defScope s__law_top) .none kV__law_top dc__law_top pm__law_top an__law_top cd__law_top ct__law_top
  let d__law_pair : FuncData := PySem.W.fnOf "_law_pair" "_law_pair" (defArgs s__law_pair) (defBody s__law_pair) (defScope s__law_pair) .none kV__law_pair dc__law_pair pm__law_pair an__law_pair cd__law_pair ct__law_pair
  let d__law_sides : FuncData := PySem.W.fnOf "_law_sides" "_law_sides" (defArgs s__law_sides) (defBody s__law_sides) (defScope s__law_sides) .none kV__law_sides dc__law_sides pm__law_sides an__law_sides cd__law_sides ct__law_sides
  let d__law_first_right : FuncData := PySem.W.fnOf "_law_first_right" "_law_first_right" (defArgs s__law_first_right) (defBody s__law_first_right) (defScope s__law_first_right) .none kV__law_first_right dc__law_first_right pm__law_first_right an__law_first_right cd__law_first_right ct__law_first_right
  let d__law_at_right : FuncData := PySem.W.fnOf "_law_at_right" "_law_at_right" (defArgs s__law_at_right) (defBody s__law_at_right) (defScope s__law_at_right) .none kV__law_at_right dc__law_at_right pm__law_at_right an__law_at_right cd__law_at_right ct__law_at_right
  let d_law : FuncData := PySem.W.fnOf "law" "law" (defArgs s_law) (defBody s_law) (defScope s_law) .none kV_law dc_law pm_law an_law cd_law ct_law
  have m_ten_to : mg "ten_to" = some (.ref a_ten_to) := PySem.W.mg_of X G h_a_ten_to
  have F_ten_to : Fun K "ten_to" "ten_to" s_ten_to a_ten_to d_ten_to := fun_mk (st := s_ten_to) h_l_ten_to h_c_ten_to h_k_ten_to
  have b_ten_to : Binds K d_ten_to ["power"] [] := (fun_mk (st := s_ten_to) h_l_ten_to h_c_ten_to h_k_ten_to).binds (ps := ["power"]) fun _ _ _ _ _ _ us hl => match us, hl with | [_], _ => rfl
  have m_count_of : mg "count_of" = some (.ref a_count_of) := PySem.W.mg_of X G h_a_count_of
  have F_count_of : Fun K "count_of" "count_of" s_count_of a_count_of d_count_of := fun_mk (st := s_count_of) h_l_count_of h_c_count_of h_k_count_of
  have b_count_of : Binds K d_count_of ["figures"] [] := (fun_mk (st := s_count_of) h_l_count_of h_c_count_of h_k_count_of).binds (ps := ["figures"]) fun _ _ _ _ _ _ us hl => match us, hl with | [_], _ => rfl
  have m_root_below : mg "root_below" = some (.ref a_root_below) := PySem.W.mg_of X G h_a_root_below
  have F_root_below : Fun K "root_below" "root_below" s_root_below a_root_below d_root_below := fun_mk (st := s_root_below) h_l_root_below h_c_root_below h_k_root_below
  have b_root_below : Binds K d_root_below ["number"] [] := (fun_mk (st := s_root_below) h_l_root_below h_c_root_below h_k_root_below).binds (ps := ["number"]) fun _ _ _ _ _ _ us hl => match us, hl with | [_], _ => rfl
  have F_Root___init__ : FunD K "__init__" "Root.__init__" (defArgs s_Root___init__) (defBody s_Root___init__) (defScope s_Root___init__) [V.int 0] [] a_Root___init__ d_Root___init__ := ⟨⟨_, _, _, _, _, _, _, _, _, _, rfl, h_l_Root___init__, h_c_Root___init__, .inr ⟨by decide, T_Root___init__, _, _, Tn_Root___init__, rfl, h_T_Root___init__, rfl, .cons ⟨_, rfl⟩ (.nil)⟩, .inl rfl⟩, h_k_Root___init__⟩
  have F_Root_first : Fun K "first" "Root.first" s_Root_first a_Root_first d_Root_first := fun_mk (st := s_Root_first) h_l_Root_first h_c_Root_first h_k_Root_first
  have b_Root_first : Binds K d_Root_first ["self"] [] := (fun_mk (st := s_Root_first) h_l_Root_first h_c_Root_first h_k_Root_first).binds (ps := ["self"]) fun _ _ _ _ _ _ us hl => match us, hl with | [_], _ => rfl
  have F_Root_at : Fun K "at" "Root.at" s_Root_at a_Root_at d_Root_at := fun_mk (st := s_Root_at) h_l_Root_at h_c_Root_at h_k_Root_at
  have b_Root_at : Binds K d_Root_at ["self", "power"] [] := (fun_mk (st := s_Root_at) h_l_Root_at h_c_Root_at h_k_Root_at).binds (ps := ["self", "power"]) fun _ _ _ _ _ _ us hl => match us, hl with | [_, _], _ => rfl
  have m__law_cell_at : mg "_law_cell_at" = some (.ref a__law_cell_at) := PySem.W.mg_of X G h_a__law_cell_at
  have F__law_cell_at : Fun K "_law_cell_at" "_law_cell_at" s__law_cell_at a__law_cell_at d__law_cell_at := fun_mk (st := s__law_cell_at) h_l__law_cell_at h_c__law_cell_at h_k__law_cell_at
  have b__law_cell_at : Binds K d__law_cell_at ["_law_script", "_law_k"] [] := (fun_mk (st := s__law_cell_at) h_l__law_cell_at h_c__law_cell_at h_k__law_cell_at).binds (ps := ["_law_script", "_law_k"]) fun _ _ _ _ _ _ us hl => match us, hl with | [_, _], _ => rfl
  have m__law_mixed : mg "_law_mixed" = some (.ref a__law_mixed) := PySem.W.mg_of X G h_a__law_mixed
  have F__law_mixed : Fun K "_law_mixed" "_law_mixed" s__law_mixed a__law_mixed d__law_mixed := fun_mk (st := s__law_mixed) h_l__law_mixed h_c__law_mixed h_k__law_mixed
  have b__law_mixed : Binds K d__law_mixed ["_law_cell", "_law_k"] [] := (fun_mk (st := s__law_mixed) h_l__law_mixed h_c__law_mixed h_k__law_mixed).binds (ps := ["_law_cell", "_law_k"]) fun _ _ _ _ _ _ us hl => match us, hl with | [_, _], _ => rfl
  have m__law_ten : mg "_law_ten" = some (.ref a__law_ten) := PySem.W.mg_of X G h_a__law_ten
  have F__law_ten : Fun K "_law_ten" "_law_ten" s__law_ten a__law_ten d__law_ten := fun_mk (st := s__law_ten) h_l__law_ten h_c__law_ten h_k__law_ten
  have b__law_ten : Binds K d__law_ten ["_law_count"] [] := (fun_mk (st := s__law_ten) h_l__law_ten h_c__law_ten h_k__law_ten).binds (ps := ["_law_count"]) fun _ _ _ _ _ _ us hl => match us, hl with | [_], _ => rfl
  have m__law_top : mg "_law_top" = some (.ref a__law_top) := PySem.W.mg_of X G h_a__law_top
  have F__law_top : Fun K "_law_top" "_law_top" s__law_top a__law_top d__law_top := fun_mk (st := s__law_top) h_l__law_top h_c__law_top h_k__law_top
  have b__law_top : Binds K d__law_top ["_law_cell"] [] := (fun_mk (st := s__law_top) h_l__law_top h_c__law_top h_k__law_top).binds (ps := ["_law_cell"]) fun _ _ _ _ _ _ us hl => match us, hl with | [_], _ => rfl
  have m__law_pair : mg "_law_pair" = some (.ref a__law_pair) := PySem.W.mg_of X G h_a__law_pair
  have F__law_pair : Fun K "_law_pair" "_law_pair" s__law_pair a__law_pair d__law_pair := fun_mk (st := s__law_pair) h_l__law_pair h_c__law_pair h_k__law_pair
  have b__law_pair : Binds K d__law_pair ["_law_found"] [] := (fun_mk (st := s__law_pair) h_l__law_pair h_c__law_pair h_k__law_pair).binds (ps := ["_law_found"]) fun _ _ _ _ _ _ us hl => match us, hl with | [_], _ => rfl
  have m__law_sides : mg "_law_sides" = some (.ref a__law_sides) := PySem.W.mg_of X G h_a__law_sides
  have F__law_sides : Fun K "_law_sides" "_law_sides" s__law_sides a__law_sides d__law_sides := fun_mk (st := s__law_sides) h_l__law_sides h_c__law_sides h_k__law_sides
  have b__law_sides : Binds K d__law_sides ["_law_top_here", "_law_shift"] [] := (fun_mk (st := s__law_sides) h_l__law_sides h_c__law_sides h_k__law_sides).binds (ps := ["_law_top_here", "_law_shift"]) fun _ _ _ _ _ _ us hl => match us, hl with | [_, _], _ => rfl
  have m__law_first_right : mg "_law_first_right" = some (.ref a__law_first_right) := PySem.W.mg_of X G h_a__law_first_right
  have F__law_first_right : Fun K "_law_first_right" "_law_first_right" s__law_first_right a__law_first_right d__law_first_right := fun_mk (st := s__law_first_right) h_l__law_first_right h_c__law_first_right h_k__law_first_right
  have b__law_first_right : Binds K d__law_first_right ["_law_found", "_law_top_here", "_law_ten_here"] [] := (fun_mk (st := s__law_first_right) h_l__law_first_right h_c__law_first_right h_k__law_first_right).binds (ps := ["_law_found", "_law_top_here", "_law_ten_here"]) fun _ _ _ _ _ _ us hl => match us, hl with | [_, _, _], _ => rfl
  have m__law_at_right : mg "_law_at_right" = some (.ref a__law_at_right) := PySem.W.mg_of X G h_a__law_at_right
  have F__law_at_right : Fun K "_law_at_right" "_law_at_right" s__law_at_right a__law_at_right d__law_at_right := fun_mk (st := s__law_at_right) h_l__law_at_right h_c__law_at_right h_k__law_at_right
  have b__law_at_right : Binds K d__law_at_right ["_law_found", "_law_top_here", "_law_shift"] [] := (fun_mk (st := s__law_at_right) h_l__law_at_right h_c__law_at_right h_k__law_at_right).binds (ps := ["_law_found", "_law_top_here", "_law_shift"]) fun _ _ _ _ _ _ us hl => match us, hl with | [_, _, _], _ => rfl
  have m_law : mg "law" = some (.ref a_law) := PySem.W.mg_of X G h_a_law
  have F_law : Fun K "law" "law" s_law a_law d_law := fun_mk (st := s_law) h_l_law h_c_law h_k_law
  have b_law : Binds K d_law ["_law_script"] [] := (fun_mk (st := s_law) h_l_law h_c_law h_k_law).binds (ps := ["_law_script"]) fun _ _ _ _ _ _ us hl => match us, hl with | [_], _ => rfl
  have m_Exact : mg "Exact" = some (.ref c_Exact) := PySem.W.mg_of X G h_n_Exact
  have m_Root : mg "Root" = some (.ref c_Root) := PySem.W.mg_of X G h_n_Root
  have i_Root : ClsI K c_Root := ⟨⟨h_pg_Root, h_hd_Root, h_po_Root, h_sa_Root⟩, h_ha_Root, h_hn_Root, h_htk_Root, h_hm_Root⟩
  have mk_Root : Mk K c_Root a_Root___init__ := ⟨h_mk_Root, h_in_Root, h_if_Root, h_kc_Root⟩
  have no_Root_square : NoAttr K c_Root "square" := h_no_Root_square
  have no_Root_scale : NoAttr K c_Root "scale" := h_no_Root_scale
  have n_all : mg "all" = none := PySem.W.mg_none_of X G h_z_all
  have n_bool : mg "bool" = none := PySem.W.mg_none_of X G h_z_bool
  have n_divmod : mg "divmod" = none := PySem.W.mg_none_of X G h_z_divmod
  have n_int : mg "int" = none := PySem.W.mg_none_of X G h_z_int
  have n_isinstance : mg "isinstance" = none := PySem.W.mg_none_of X G h_z_isinstance
  have n_len : mg "len" = none := PySem.W.mg_none_of X G h_z_len
  have n_max : mg "max" = none := PySem.W.mg_none_of X G h_z_max
  have n_range : mg "range" = none := PySem.W.mg_none_of X G h_z_range
  have n_tuple : mg "tuple" = none := PySem.W.mg_none_of X G h_z_tuple
  have b_Root_1 : ∃ ds, Vals [V.int 0] ds ∧ Binds K d_Root___init__ ["self", "top", "power"] ds := (F_Root___init__).binds1 2 0 (by decide) rfl fun _ _ _ _ _ _ _ us its hu hi => match us, its, hu, hi with | [_, _], [_], _, _ => ⟨_, rfl, rfl⟩
  have b_Root_2 : ∃ ds, Vals [] ds ∧ Binds K d_Root___init__ ["self", "top", "power"] ds := (F_Root___init__).binds1 3 1 (by decide) rfl fun _ _ _ _ _ _ _ us its hu hi => match us, its, hu, hi with | [_, _, _], [_], _, _ => ⟨_, rfl, rfl⟩
  have kb_Root_1_power : ∃ gg, KBn K d_Root___init__ ["self", "top", "power"] (1 + 1) ["power"] gg fun vs zs => vs.take 1 ++ gv_Root_1_power (vs.drop 1) zs := by
    obtain ⟨its, z⟩ := F_Root___init__.kbindsD (ps := ["self", "top", "power"]) 2 ["power"] (fun us _ ws => us ++ ws) (by decide) (fun r1 r2 r3 => r1.append r3) fun _ _ _ _ _ _ _ us its ws hu hi hw => match us, its, ws, hu, hi, hw with | [_, _], [_], [_], _, _, _ => ⟨_, rfl, rfl⟩
    have ez : (fun (vs zs : List V) => vs.take 1 ++ gv_Root_1_power (vs.drop 1) zs) = fun vs zs => vs ++ zs := by
      funext vs zs
      rw [← List.append_assoc, List.take_append_drop]
    exact ⟨_, by rw [ez]; exact z⟩
  have M_Root_at : Meth K c_Root "at" a_Root_at := ⟨h_M_Root_at, h_Mi_Root_at, h_k_Root_at⟩
  have M_Root_first : Meth K c_Root "first" a_Root_first := ⟨h_M_Root_first, h_Mi_Root_first, h_k_Root_first⟩
  have isi_Root_Exact : PySem.W.kitOne K (.ref c_Root) (.ref c_Exact) = some true := kit_own h_is_Root_Exact h_ic_Exact h_it_Exact (.inl rfl)
  let T : Tx K mg := { a_ten_to := a_ten_to, d_ten_to := d_ten_to, a_count_of := a_count_of, d_count_of := d_count_of, a_root_below := a_root_below, d_root_below := d_root_below, a_Root___init__ := a_Root___init__, d_Root___init__ := d_Root___init__, a_Root_first := a_Root_first, d_Root_first := d_Root_first, a_Root_at := a_Root_at, d_Root_at := d_Root_at, a__law_cell_at := a__law_cell_at, d__law_cell_at := d__law_cell_at, a__law_mixed := a__law_mixed, d__law_mixed := d__law_mixed, a__law_ten := a__law_ten, d__law_ten := d__law_ten, a__law_top := a__law_top, d__law_top := d__law_top, a__law_pair := a__law_pair, d__law_pair := d__law_pair, a__law_sides := a__law_sides, d__law_sides := d__law_sides, a__law_first_right := a__law_first_right, d__law_first_right := d__law_first_right, a__law_at_right := a__law_at_right, d__law_at_right := d__law_at_right, a_law := a_law, d_law := d_law, c_Exact := c_Exact, c_Root := c_Root, m_ten_to := m_ten_to, F_ten_to := F_ten_to, b_ten_to := b_ten_to, m_count_of := m_count_of, F_count_of := F_count_of, b_count_of := b_count_of, m_root_below := m_root_below, F_root_below := F_root_below, b_root_below := b_root_below, F_Root___init__ := F_Root___init__, F_Root_first := F_Root_first, b_Root_first := b_Root_first, F_Root_at := F_Root_at, b_Root_at := b_Root_at, m__law_cell_at := m__law_cell_at, F__law_cell_at := F__law_cell_at, b__law_cell_at := b__law_cell_at, m__law_mixed := m__law_mixed, F__law_mixed := F__law_mixed, b__law_mixed := b__law_mixed, m__law_ten := m__law_ten, F__law_ten := F__law_ten, b__law_ten := b__law_ten, m__law_top := m__law_top, F__law_top := F__law_top, b__law_top := b__law_top, m__law_pair := m__law_pair, F__law_pair := F__law_pair, b__law_pair := b__law_pair, m__law_sides := m__law_sides, F__law_sides := F__law_sides, b__law_sides := b__law_sides, m__law_first_right := m__law_first_right, F__law_first_right := F__law_first_right, b__law_first_right := b__law_first_right, m__law_at_right := m__law_at_right, F__law_at_right := F__law_at_right, b__law_at_right := b__law_at_right, m_law := m_law, F_law := F_law, b_law := b_law, m_Exact := m_Exact, m_Root := m_Root, i_Root := i_Root, mk_Root := mk_Root, no_Root_square := no_Root_square, no_Root_scale := no_Root_scale, n_all := n_all, n_bool := n_bool, n_divmod := n_divmod, n_int := n_int, n_isinstance := n_isinstance, n_len := n_len, n_max := n_max, n_range := n_range, n_tuple := n_tuple, b_Root_1 := b_Root_1, b_Root_2 := b_Root_2, kb_Root_1_power := kb_Root_1_power, M_Root_at := M_Root_at, M_Root_first := M_Root_first, isi_Root_Exact := isi_Root_Exact }
  refine ⟨d_law, fun s v => .of_eq rfl, fun base _ _ => ?_⟩
  rw [e]
  exact ok_law (P := P) (w := w) (base := base) T
theorem walk {l : PySem.W.OpenLaw} {q : Program} {loose : List Str} {XP : (Str → Option Value) → Heap → Prop} {YP : World → Heap → Prop} {d : DefRec} {K : Params → PySem.W.Frag} (hn : l.most = some 63) (hdf : d.params.defaults = [])
    (hY : ∀ (w : World) (h : Heap), YP w h → (K w.params).In h)
    (F : ∀ (w : World) (mg : Str → Option Value) (fa : Addr) (h : Heap), (K w.params).In h → h.Ns mainGlobals mg → mg d.name = some (.ref fa) →
      ∃ fd : FuncData, (∀ (s : Shared) (u : Value), BindsTo s fd ⟨[u], []⟩ [("_law_script", u)]) ∧ ∀ base : Heap, (K w.params).In base → base.Ns mainGlobals mg → FnOk l.prog w (K w.params) mg base (L2.CX l.prog w) 5 fa fd ["_law_script"] (spQ (K w.params) sLaw)) :
    PySem.W.WalkO q loose XP YP l.row.toRowW d [] (fun f vs => PySem.call f vs) :=
  L2.walk_of (n := 63) (k := 5) (x := "_law_script") (CX := fun w => L2.CX l.prog w) (sp := fun w => spQ (K w.params) sLaw) hn (by decide) hdf ⟨rfl, by decide, by decide⟩ hY F (fun _ _ a ns hl _ hS => law_end hl hS) fun w H s e s' z => law_CX H s e s' z
end K10
open PySem PySem.W PyProof.Rows in
set_option maxRecDepth 100000 in
set_option maxHeartbeats 0 in
theorem PySem.Challenge.cw_tenreckon_k10_roots_holds : PySem.Challenge.rw_tenreckon_k10_roots.Holds := by
  w_on; o_law; k_head; (case hw => w_witness2)
  k_fill
  refine K10.walk (l := PySem.Challenge.rw_tenreckon_k10_roots) rfl rfl (fun w h Y => PySem.W.kIn_of Y) ?F
  case F =>
    intro w mg fa h KX G hmg
    refine' K10.all_mk KX G hmg ?h_a_ten_to ?h_l_ten_to ?h_c_ten_to ?h_k_ten_to ?h_a_count_of ?h_l_count_of ?h_c_count_of ?h_k_count_of ?h_a_root_below ?h_l_root_below ?h_c_root_below ?h_k_root_below ?h_l_Root___init__ ?h_c_Root___init__ ?h_k_Root___init__ ?h_T_Root___init__ ?h_l_Root_first ?h_c_Root_first ?h_k_Root_first ?h_l_Root_at ?h_c_Root_at ?h_k_Root_at ?h_a__law_cell_at ?h_l__law_cell_at ?h_c__law_cell_at ?h_k__law_cell_at ?h_a__law_mixed ?h_l__law_mixed ?h_c__law_mixed ?h_k__law_mixed ?h_a__law_ten ?h_l__law_ten ?h_c__law_ten ?h_k__law_ten ?h_a__law_top ?h_l__law_top ?h_c__law_top ?h_k__law_top ?h_a__law_pair ?h_l__law_pair ?h_c__law_pair ?h_k__law_pair ?h_a__law_sides ?h_l__law_sides ?h_c__law_sides ?h_k__law_sides ?h_a__law_first_right ?h_l__law_first_right ?h_c__law_first_right ?h_k__law_first_right ?h_a__law_at_right ?h_l__law_at_right ?h_c__law_at_right ?h_k__law_at_right ?h_a_law ?h_l_law ?h_c_law ?h_k_law ?h_n_Exact ?h_n_Root ?h_pg_Root ?h_hd_Root ?h_po_Root ?h_sa_Root ?h_ha_Root ?h_hn_Root ?h_htk_Root ?h_hm_Root ?h_mk_Root ?h_kc_Root ?h_in_Root ?h_if_Root ?h_no_Root_square ?h_no_Root_scale ?h_z_all ?h_z_bool ?h_z_divmod ?h_z_int ?h_z_isinstance ?h_z_len ?h_z_max ?h_z_range ?h_z_tuple ?h_M_Root_at ?h_Mi_Root_at ?h_M_Root_first ?h_Mi_Root_first ?h_ic_Exact ?h_it_Exact ?h_is_Root_Exact
    (case h_a_ten_to => k_is)
    (case h_a_count_of => k_is)
    (case h_a_root_below => k_is)
    (case h_a__law_cell_at => k_is)
    (case h_a__law_mixed => k_is)
    (case h_a__law_ten => k_is)
    (case h_a__law_top => k_is)
    (case h_a__law_pair => k_is)
    (case h_a__law_sides => k_is)
    (case h_a__law_first_right => k_is)
    (case h_a__law_at_right => k_is)
    (case h_a_law => k_is)
    (case h_n_Exact => k_is)
    (case h_n_Root => k_is)
    (case h_in_Root => k_is)
    (case h_M_Root_at => k_is)
    (case h_M_Root_first => k_is)
    (case h_l_ten_to => k_is)
    (case h_l_count_of => k_is)
    (case h_l_root_below => k_is)
    (case h_l_Root___init__ => k_is)
    (case h_l_Root_first => k_is)
    (case h_l_Root_at => k_is)
    (case h_l__law_cell_at => k_is)
    (case h_l__law_mixed => k_is)
    (case h_l__law_ten => k_is)
    (case h_l__law_top => k_is)
    (case h_l__law_pair => k_is)
    (case h_l__law_sides => k_is)
    (case h_l__law_first_right => k_is)
    (case h_l__law_at_right => k_is)
    (case h_l_law => k_is)
    (case h_c_ten_to => k_is)
    (case h_k_ten_to => k_is)
    (case h_c_count_of => k_is)
    (case h_k_count_of => k_is)
    (case h_c_root_below => k_is)
    (case h_k_root_below => k_is)
    (case h_c_Root___init__ => k_is)
    (case h_k_Root___init__ => k_is)
    (case h_T_Root___init__ => k_is)
    (case h_c_Root_first => k_is)
    (case h_k_Root_first => k_is)
    (case h_c_Root_at => k_is)
    (case h_k_Root_at => k_is)
    (case h_c__law_cell_at => k_is)
    (case h_k__law_cell_at => k_is)
    (case h_c__law_mixed => k_is)
    (case h_k__law_mixed => k_is)
    (case h_c__law_ten => k_is)
    (case h_k__law_ten => k_is)
    (case h_c__law_top => k_is)
    (case h_k__law_top => k_is)
    (case h_c__law_pair => k_is)
    (case h_k__law_pair => k_is)
    (case h_c__law_sides => k_is)
    (case h_k__law_sides => k_is)
    (case h_c__law_first_right => k_is)
    (case h_k__law_first_right => k_is)
    (case h_c__law_at_right => k_is)
    (case h_k__law_at_right => k_is)
    (case h_c_law => k_is)
    (case h_k_law => k_is)
    (case h_pg_Root => k_is)
    (case h_hd_Root => k_is)
    (case h_po_Root => k_is)
    (case h_sa_Root => k_is)
    (case h_ha_Root => k_is)
    (case h_hn_Root => k_is)
    (case h_htk_Root => k_is)
    (case h_hm_Root => k_is)
    (case h_mk_Root => k_is)
    (case h_kc_Root => k_is)
    (case h_if_Root => k_is)
    (case h_no_Root_square => k_is)
    (case h_no_Root_scale => k_is)
    (case h_z_all => k_is)
    (case h_z_bool => k_is)
    (case h_z_divmod => k_is)
    (case h_z_int => k_is)
    (case h_z_isinstance => k_is)
    (case h_z_len => k_is)
    (case h_z_max => k_is)
    (case h_z_range => k_is)
    (case h_z_tuple => k_is)
    (case h_Mi_Root_at => k_is)
    (case h_Mi_Root_first => k_is)
    (case h_ic_Exact => k_is)
    (case h_it_Exact => k_is)
    (case h_is_Root_Exact => k_is)

