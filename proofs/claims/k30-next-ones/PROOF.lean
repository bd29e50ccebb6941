import PyProof.Rows.All
import Wide.All
import OpenK.AllK
import Wide.FinOn
import PyProof.StrOps2
import HandS.ForMost
import HandS.ForExc
import HandS.Wide
import HandS.WideBits
import HandS.IsInst
import HandS.Lambda
import KE.DataEq
import HandS.Flow
import HandS.MakeKw
import KE.IntTextLaws
import HandS.Style
import HandS.Text
import HandS.ExcOwn
import HandS.List
import HandS.Dict
import HandS.Head0
import HandS.Head1
import HandS.Head2
import HandS.HeadHook1
import HandS.HeadHook2
import HandS.HeadNt
import KE.KExcMake
import HandS.HeadWalk
import HandS.ExcIs
import KE.KExcIs
import HandS.Iter
import HandS.Walk
import KE.GoesEnum
import HandS.Finally
import HandS.Zip
import HandS.EndTab
import HandS.HeadHook4
import PySem.Challenge.RW_tenreckon_k30_next_ones
set_option Elab.async false
set_option linter.all false
set_option maxRecDepth 100000
set_option maxHeartbeats 4000000
set_option exponentiation.threshold 40000
/-! The layer over the hand layer: values without addresses. What nobody writes (texts, tuples, lists that are not changed, instances that are not changed) stands inline; what is written stands in Mem, by its address. -/
namespace TQ
open PySem PySem.Spec PyProof.Rows L2

inductive PV where
  | non | bl (b : Bool) | int (i : Int) | str (x : Str)
  | tup (xs : List PV) | lst (xs : List PV) | scr (ns : List Int)
  | obj (C : Addr) (ns : List Str) (vs : List PV)
  | ref (a : Addr) | ty (n : String)
  | exc (a d : Addr) (x : PV)

/-- a lambda's words -/
structure LamT where
  q : Str
  pa : Arguments
  body : Expr
  sc : Scope
/-- what is written; a lambda, with the cells that it captured and, while these stand still, what they hold; a table of lambdas' code objects -/
inductive MO where
  | lst (xs : List PV) | dic (ks : List Key) (vs : List PV) | ins (C : Addr) (ns : List Str) (vs : List PV)
  | lam (L : LamT) (cl : List (Str × Addr)) (vals : Option (List PV)) | tab (q : Str)
abbrev Mem := Addr → Option MO
def mset (M : Mem) (a : Addr) (o : MO) : Mem := fun b => if b = a then some o else M b
theorem mset_same {M : Mem} {a : Addr} {o : MO} : mset M a o a = some o := if_pos rfl
theorem mset_ne {M : Mem} {a b : Addr} {o : MO} (h : b ≠ a) : mset M a o b = M b := if_neg h

mutual
def Rep (K : PySem.W.Frag) (G : Hp) : PV → V → Prop
  | .non, v => v = .non
  | .bl b, v => v = .bl b
  | .int i, v => v = .int i
  | .str x, v => v = .str x
  | .tup xs, v => ∃ a vs, v = .ref a ∧ SqT K G a vs ∧ Reps K G xs vs
  | .lst xs, v => ∃ a vs, v = .ref a ∧ G a = some (.lst vs) ∧ Reps K G xs vs
  | .scr ns, v => ∃ a, v = .ref a ∧ SqL K G a (ns.map V.int)
  | .obj C ns xs, v => ∃ a dx vs, v = .ref a ∧ G a = some (.ins C dx (ns.zip vs)) ∧ Reps K G xs vs
  | .ref a, v => v = .ref a
  | .ty n, v => v = .ty n
  | .exc a d x, v => v = .ref a ∧ ∃ u, G d = some (.xd [(("signal" : Str), u)]) ∧ Rep K G x u
def Reps (K : PySem.W.Frag) (G : Hp) : List PV → List V → Prop
  | [], vs => vs = []
  | x :: xs, vs => ∃ v ws, vs = v :: ws ∧ Rep K G x v ∧ Reps K G xs ws
end

def Ext (G G' : Hp) : Prop := ∀ a o, G a = some o → G' a = some o
theorem Ext.refl (G : Hp) : Ext G G := fun _ _ h => h
theorem Ext.trans {G G1 G2 : Hp} (a : Ext G G1) (b : Ext G1 G2) : Ext G G2 := fun x o h => b x o (a x o h)
theorem Ext.new {G : Hp} {p : Addr} {o : HO} (h : G p = none) : Ext G (upd G p o) := fun a u e => by
  rw [upd_ne (ne_of_none e h)]; exact e
theorem ext_rd {H H' : Hp} {a : Addr} {u : HO} (e : Ext H H') (h : Rd H a u) : Rd H' a u := by
  rcases h with h | ⟨o, h⟩
  · exact .inl (e a _ h)
  · exact .inr ⟨o, e a _ h⟩
theorem ext_t {K : PySem.W.Frag} {H H' : Hp} {a : Addr} {xs : List V} (e : Ext H H') (h : SqT K H a xs) : SqT K H' a xs := by
  rcases h with h | h
  · exact .inl (ext_rd e h)
  · exact .inr h
theorem ext_l {K : PySem.W.Frag} {H H' : Hp} {a : Addr} {xs : List V} (e : Ext H H') (h : SqL K H a xs) : SqL K H' a xs := by
  rcases h with h | h
  · exact .inl (ext_rd e h)
  · exact .inr h

section
variable {K : PySem.W.Frag} {G G' : Hp}
mutual
theorem Rep.mono (e : Ext G G') : ∀ (x : PV) (v : V), Rep K G x v → Rep K G' x v
  | .non, _, h => h
  | .bl _, _, h => h
  | .int _, _, h => h
  | .str _, _, h => h
  | .tup xs, _, h => by
    obtain ⟨a, vs, h1, h2, h3⟩ := h
    exact ⟨a, vs, h1, ext_t e h2, Reps.mono e xs vs h3⟩
  | .lst xs, _, h => by
    obtain ⟨a, vs, h1, h2, h3⟩ := h
    exact ⟨a, vs, h1, e _ _ h2, Reps.mono e xs vs h3⟩
  | .scr ns, _, h => by
    obtain ⟨a, h1, h2⟩ := h
    exact ⟨a, h1, ext_l e h2⟩
  | .obj C ns xs, _, h => by
    obtain ⟨a, dx, vs, h1, h2, h3⟩ := h
    exact ⟨a, dx, vs, h1, e _ _ h2, Reps.mono e xs vs h3⟩
  | .ref _, _, h => h
  | .ty _, _, h => h
  | .exc a d x, _, h => by
    obtain ⟨h0, v, h1, h2⟩ := h
    exact ⟨h0, v, e _ _ h1, Rep.mono e x v h2⟩
theorem Reps.mono (e : Ext G G') : ∀ (xs : List PV) (vs : List V), Reps K G xs vs → Reps K G' xs vs
  | [], _, h => h
  | x :: xs, _, h => by
    obtain ⟨v, ws, h1, h2, h3⟩ := h
    exact ⟨v, ws, h1, Rep.mono e x v h2, Reps.mono e xs ws h3⟩
end
theorem Reps.length : ∀ {xs : List PV} {vs : List V}, Reps K G xs vs → xs.length = vs.length
  | [], _, h => by cases h; rfl
  | x :: xs, _, h => by
    obtain ⟨v, ws, rfl, _, h3⟩ := h
    simp [Reps.length h3]
theorem Reps.get : ∀ {xs : List PV} {vs : List V} {i : Nat} {x : PV}, Reps K G xs vs → xs[i]? = some x → ∃ v, vs[i]? = some v ∧ Rep K G x v
  | [], _, _, _, _, e => by simp at e
  | x :: xs, _, 0, y, h, e => by
    obtain ⟨v, ws, rfl, h2, h3⟩ := h
    simp at e
    subst e
    exact ⟨v, rfl, h2⟩
  | x :: xs, _, i + 1, y, h, e => by
    obtain ⟨v, ws, rfl, h2, h3⟩ := h
    obtain ⟨u, q1, q2⟩ := Reps.get h3 (by simpa using e)
    exact ⟨u, by simpa using q1, q2⟩
theorem Reps.getV : ∀ {xs : List PV} {vs : List V} {i : Nat} {v : V}, Reps K G xs vs → vs[i]? = some v → ∃ x, xs[i]? = some x ∧ Rep K G x v
  | [], _, _, _, h, e => by cases h; simp at e
  | x :: xs, _, 0, y, h, e => by
    obtain ⟨v, ws, rfl, h2, h3⟩ := h
    simp at e
    subst e
    exact ⟨x, rfl, h2⟩
  | x :: xs, _, i + 1, y, h, e => by
    obtain ⟨v, ws, rfl, h2, h3⟩ := h
    obtain ⟨u, q1, q2⟩ := Reps.getV h3 (by simpa using e)
    exact ⟨u, by simpa using q1, q2⟩
theorem Reps.append : ∀ {xs ys : List PV} {vs ws : List V}, Reps K G xs vs → Reps K G ys ws → Reps K G (xs ++ ys) (vs ++ ws)
  | [], _, _, _, h, q => by cases h; exact q
  | x :: xs, _, _, _, h, q => by
    obtain ⟨v, ws, rfl, h2, h3⟩ := h
    exact ⟨v, _, rfl, h2, Reps.append h3 q⟩
theorem Reps.one {x : PV} {v : V} (h : Rep K G x v) : Reps K G [x] [v] := ⟨v, [], rfl, h, rfl⟩
theorem Reps.cons {x : PV} {v : V} {xs : List PV} {vs : List V} (h : Rep K G x v) (q : Reps K G xs vs) : Reps K G (x :: xs) (v :: vs) := ⟨v, vs, rfl, h, q⟩
theorem Reps.nil : Reps K G [] [] := rfl
theorem Reps.set : ∀ {xs : List PV} {vs : List V} {x : PV} {v : V} (i : Nat), Reps K G xs vs → Rep K G x v → Reps K G (xs.set i x) (vs.set i v)
  | [], _, _, _, _, h, _ => by cases h; exact Reps.nil
  | y :: xs, _, x, v, 0, h, q => by
    obtain ⟨w, ws, rfl, h2, h3⟩ := h
    exact Reps.cons q h3
  | y :: xs, _, x, v, i + 1, h, q => by
    obtain ⟨w, ws, rfl, h2, h3⟩ := h
    exact Reps.cons h2 (Reps.set i h3 q)
theorem Reps.drop : ∀ {xs : List PV} {vs : List V} (n : Nat), Reps K G xs vs → Reps K G (xs.drop n) (vs.drop n)
  | xs, vs, 0, h => h
  | [], _, n + 1, h => by cases h; exact Reps.nil
  | x :: xs, _, n + 1, h => by
    obtain ⟨v, ws, rfl, h2, h3⟩ := h
    exact Reps.drop n h3
theorem Reps.take : ∀ {xs : List PV} {vs : List V} (n : Nat), Reps K G xs vs → Reps K G (xs.take n) (vs.take n)
  | xs, vs, 0, h => Reps.nil
  | [], _, n + 1, h => by cases h; exact Reps.nil
  | x :: xs, _, n + 1, h => by
    obtain ⟨v, ws, rfl, h2, h3⟩ := h
    exact Reps.cons h2 (Reps.take n h3)
theorem Reps.ints : ∀ (ns : List Int), Reps K G (ns.map PV.int) (ns.map V.int)
  | [] => Reps.nil
  | n :: ns => Reps.cons rfl (Reps.ints ns)
end

/-- the function object of a lambda -/
def LamO (f : Addr) (L : LamT) (cl : List (Str × Addr)) (c' : Addr) : HO := .ext fun h => ∃ pm ctv, h.get? f = some (PySem.W.kla_obj "<lambda>" L.q L.pa L.body L.sc cl pm c' ctv)
/-- a cell that stands still -/
def CellOk (K : PySem.W.Frag) (G H : Hp) (c : Addr) (x : PV) : Prop := G c = none ∧ ∃ (o : Obj) (z : Value) (v : V), H c = some (.frz o (.ext fun _ => True)) ∧ o.data = .cell (some z) ∧ RelV v z ∧ Rep K G x v
/-- the names that a lambda captures, as they stand in its closure -/
def capN (L : LamT) : List Str := ((L.sc.names.filter fun y => y.2 == .free).map (·.1)).reverse
structure ClOk (L : LamT) (cl : List (Str × Addr)) : Prop where
  nm : cl.map (·.1) = capN L
  one : ∀ y c d, (y, c) ∈ cl → (y, d) ∈ cl → c = d
  has : ∀ y ∈ L.sc.names, y.2 = .free → ∃ c, cl.lookup y.1 = some c
  inj : ∀ x y c, cl.lookup x = some c → cl.lookup y = some c → x = y
def MOk (K : PySem.W.Frag) (G H : Hp) (a : Addr) : MO → Prop
  | .lst xs => ∃ vs, H a = some (.lst vs) ∧ Reps K G xs vs
  | .dic ks xs => ∃ vs, H a = some (.dK (ks.zip vs)) ∧ ks.length = vs.length ∧ Reps K G xs vs
  | .ins C ns xs => ∃ dx vs, H a = some (.ins C dx (ns.zip vs)) ∧ Reps K G xs vs
  | .lam L cl vals => ∃ c', H a = some (LamO a L cl c') ∧ H c' = some (LamX.CodeO c' L.q) ∧ ClOk L cl ∧ ∀ xs, vals = some xs → xs.length = cl.length ∧ ∀ (i : Nat) y c x, cl[i]? = some (y, c) → xs[i]? = some x → CellOk K G H c x
  | .tab q => LamX.TabS H a q
/-- what stays for good -/
def Fix : HO → Prop
  | .ext _ => True
  | .frz _ _ => True
  | _ => False
def NFix (H : Hp) (p : Addr) : Prop := H p = none ∨ ∃ u, H p = some u ∧ ¬ Fix u
theorem NFix.ne {H : Hp} {p b : Addr} {u : HO} (h : NFix H p) (e : H b = some u) (f : Fix u) : b ≠ p := by
  rintro rfl
  rcases h with h | ⟨u', h, n⟩
  · rw [h] at e; cases e
  · rw [h] at e; cases e; exact n f

structure Wf (K : PySem.W.Frag) (M : Mem) (H G : Hp) : Prop where
  sub : Ext G H
  mem : ∀ a m, M a = some m → G a = none ∧ MOk K G H a m
  ntb : ∀ a ps, G a ≠ some (.tbl ps)

/-- local names -/
abbrev Sl := List (Option PV)
structure EnvR (K : PySem.W.Frag) (G : Hp) (env : Sl) (σ : L2.St) : Prop where
  len : env.length = σ.length
  get : ∀ (i : Nat) (x : PV), env[i]? = some (some x) → ∃ v, σ[i]? = some (some v) ∧ Rep K G x v
structure Sim (K : PySem.W.Frag) (env : Sl) (M : Mem) (G : Hp) (σ : L2.St) (H : Hp) : Prop where
  env : EnvR K G env σ
  wf : Wf K M H G

section
variable {K : PySem.W.Frag} {G G' H H' : Hp} {M M' : Mem} {env : Sl} {σ : L2.St}
theorem EnvR.mono (e : Ext G G') (h : EnvR K G env σ) : EnvR K G' env σ := ⟨h.len, fun i x q => by
  obtain ⟨v, q1, q2⟩ := h.get i x q
  exact ⟨v, q1, Rep.mono e x v q2⟩⟩
theorem EnvR.set {i : Nat} {x : PV} {v : V} (h : EnvR K G env σ) (q : Rep K G x v) : EnvR K G (env.set i (some x)) (σ.set i (some v)) := by
  refine ⟨by simp [h.len], fun j y e => ?_⟩
  by_cases hj : i = j
  · subst hj
    rw [List.getElem?_set] at e ⊢
    rw [if_pos rfl] at e ⊢
    split at e
    · rename_i hl
      rw [if_pos (by rw [← h.len]; exact hl)]
      cases e
      exact ⟨v, rfl, q⟩
    · cases e
  · rw [List.getElem?_set_ne hj] at e ⊢
    exact h.get j y e
theorem Sim.to (s : Sim K env M G σ H) (e : Ext G G') (w : Wf K M' H' G') : Sim K env M' G' σ H' := ⟨s.env.mono e, w⟩
theorem Sim.set {i : Nat} {x : PV} {v : V} (s : Sim K env M G σ H) (q : Rep K G x v) : Sim K (env.set i (some x)) M G (σ.set i (some v)) H := ⟨s.env.set q, s.wf⟩
theorem MOk.mono {a : Addr} (e : Ext G G') (hg : ∀ c o u, H c = some (.frz o u) → G c = none → G' c = none) (hk : ∀ b u, H b = some u → Fix u → H' b = some u) (hh : H' a = H a) : ∀ {m : MO}, MOk K G H a m → MOk K G' H' a m := fun {m} h => by
  cases m with
  | lst xs => obtain ⟨vs, h1, h2⟩ := h; exact ⟨vs, hh.trans h1, Reps.mono e _ _ h2⟩
  | dic ks xs => obtain ⟨vs, h1, h2, h3⟩ := h; exact ⟨vs, hh.trans h1, h2, Reps.mono e _ _ h3⟩
  | ins C ns xs => obtain ⟨dx, vs, h1, h2⟩ := h; exact ⟨dx, vs, hh.trans h1, Reps.mono e _ _ h2⟩
  | lam L cl vals =>
    obtain ⟨c', h1, h2, h3, h4⟩ := h
    refine ⟨c', hk _ _ h1 trivial, hk _ _ h2 trivial, h3, fun xs hx => ⟨(h4 xs hx).1, fun i y c x e1 e2 => ?_⟩⟩
    obtain ⟨g, o, z, v, q1, q2, q3, q4⟩ := (h4 xs hx).2 i y c x e1 e2
    exact ⟨hg _ _ _ q1 g, o, z, v, hk _ _ q1 trivial, q2, q3, Rep.mono e _ _ q4⟩
  | tab q =>
    obtain ⟨ps, h1, h2, h3⟩ := h
    refine ⟨ps, hh.trans h1, h2, fun pos cv hc => ?_⟩
    obtain ⟨c, e1, e2⟩ := h3 pos cv hc
    exact ⟨c, e1, hk _ _ e2 trivial⟩
theorem MOk.some {a : Addr} {m : MO} (h : MOk K G H a m) : ∃ o, H a = some o := by
  cases m with
  | lst xs => obtain ⟨vs, h1, h2⟩ := h; exact ⟨_, h1⟩
  | dic ks xs => obtain ⟨vs, h1, h2⟩ := h; exact ⟨_, h1⟩
  | ins C ns xs => obtain ⟨dx, vs, h1, h2⟩ := h; exact ⟨_, h1⟩
  | lam L cl vals => obtain ⟨c', h1, _⟩ := h; exact ⟨_, h1⟩
  | tab q => obtain ⟨ps, h1, _⟩ := h; exact ⟨_, h1⟩
theorem Wf.free {p : Addr} (w : Wf K M H G) (h : H p = none) : G p = none := by
  cases q : G p with
  | none => rfl
  | some o => rw [w.sub p o q] at h; cases h
theorem Wf.freeM {p : Addr} (w : Wf K M H G) (h : H p = none) : M p = none := by
  cases q : M p with
  | none => rfl
  | some m =>
    obtain ⟨o, z⟩ := (w.mem p m q).2.some
    rw [z] at h; cases h
/-- a new thing that nobody writes -/
theorem Wf.newG {p : Addr} {o : HO} (w : Wf K M H G) (h : H p = none) (ho : ∀ ps, o ≠ .tbl ps := by intro ps h; cases h) : Wf K M (upd H p o) (upd G p o) := by
  have hg := w.free h
  refine ⟨fun a u e => ?_, fun a m e => ?_, fun a ps e => ?_⟩
  · by_cases z : a = p
    · subst z; rw [upd_same] at e ⊢; exact e
    · rw [upd_ne z] at e ⊢; exact w.sub a u e
  · obtain ⟨h1, h2⟩ := w.mem a m e
    have z : a ≠ p := by rintro rfl; rw [w.freeM h] at e; cases e
    exact ⟨by rw [upd_ne z]; exact h1, h2.mono (Ext.new hg) (fun c o u q n => by rw [upd_ne (ne_of_none q h)]; exact n) (fun b u q _ => by rw [upd_ne (ne_of_none q h)]; exact q) (upd_ne z)⟩
  · by_cases z : a = p
    · subst z; rw [upd_same] at e; exact ho ps (Option.some.inj e)
    · rw [upd_ne z] at e; exact w.ntb a ps e
/-- something in H that nobody speaks of -/
theorem Wf.newH {p : Addr} {o : HO} (w : Wf K M H G) (h : H p = none) : Wf K M (upd H p o) G := by
  refine ⟨fun a u e => ?_, fun a m e => ?_, w.ntb⟩
  · by_cases z : a = p
    · subst z; rw [w.free h] at e; cases e
    · rw [upd_ne z]; exact w.sub a u e
  · obtain ⟨h1, h2⟩ := w.mem a m e
    have z : a ≠ p := by rintro rfl; rw [w.freeM h] at e; cases e
    exact ⟨h1, h2.mono (Ext.refl G) (fun _ _ _ _ n => n) (fun b u q _ => by rw [upd_ne (ne_of_none q h)]; exact q) (upd_ne z)⟩
/-- a thing in Mem is new, or changed -/
theorem Wf.put {p : Addr} {o : HO} {m : MO} (w : Wf K M H G) (h : G p = none) (q : MOk K G (upd H p o) p m) (hf : NFix H p := by first | exact Or.inl (by assumption) | (refine Or.inr ⟨_, by assumption, ?_⟩; exact fun z => z)) : Wf K (mset M p m) (upd H p o) G := by
  refine ⟨fun a u e => ?_, fun a n e => ?_, w.ntb⟩
  · by_cases z : a = p
    · subst z; rw [h] at e; cases e
    · rw [upd_ne z]; exact w.sub a u e
  · by_cases z : a = p
    · subst z
      rw [mset_same] at e
      cases e
      exact ⟨h, q⟩
    · rw [mset_ne z] at e
      obtain ⟨h1, h2⟩ := w.mem a n e
      exact ⟨h1, h2.mono (Ext.refl G) (fun _ _ _ _ n => n) (fun b u q f => by rw [upd_ne (hf.ne q f)]; exact q) (upd_ne z)⟩
end

/-! ### what a reading by such values says -/
abbrev PK := PV → Mem → Prop
/-- an exception: its class, what its field holds -/
abbrev EK := Value → Option PV → Mem → Prop
abbrev QT := Sl → Mem → PK → EK → Prop
abbrev QB := Sl → Mem → (Bool → Mem → Prop) → EK → Prop
abbrev QA := Sl → Mem → (List PV → Mem → Prop) → EK → Prop
structure QEnds where
  nx : Sl → Mem → Prop
  rt : PK
  bk : Sl → Mem → Prop := fun _ _ => False
  ct : Sl → Mem → Prop := fun _ _ => False
  ex : Value → Option PV → Sl → Mem → Prop := fun _ _ _ _ => False
abbrev QS := QEnds → Sl → Mem → Prop

/-- the field of an exception -/
def ExR (K : PySem.W.Frag) (G : Hp) (d : Option Addr) (pl : Option PV) : Prop :=
  match pl with
  | none => d = none
  | some x => ∃ dd v, d = some dd ∧ G dd = some (.xd [(("signal" : Str), v)]) ∧ Rep K G x v
def LiftV (K : PySem.W.Frag) (G : Hp) (Q0 : PK) (Q : VK) : Prop := ∀ x M' v H' G', Ext G G' → Wf K M' H' G' → Rep K G' x v → Q0 x M' → Q v H'
def LiftE (K : PySem.W.Frag) (G : Hp) (E0 : EK) (E : XK) : Prop := ∀ c pl M' d H' G', Ext G G' → Wf K M' H' G' → ExR K G' d pl → E0 c pl M' → E c d H'
def LiftB (K : PySem.W.Frag) (G : Hp) (Q0 : Bool → Mem → Prop) (Q : Bool → Hp → Prop) : Prop := ∀ x M' H' G', Ext G G' → Wf K M' H' G' → Q0 x M' → Q x H'
def LiftA (K : PySem.W.Frag) (G : Hp) (Q0 : List PV → Mem → Prop) (Q : List V → Hp → Prop) : Prop := ∀ xs M' vs H' G', Ext G G' → Wf K M' H' G' → Reps K G' xs vs → Q0 xs M' → Q vs H'
def LiftN (K : PySem.W.Frag) (G : Hp) (Q0 : Sl → Mem → Prop) (Q : L2.St → Hp → Prop) : Prop := ∀ env' M' σ' H' G', Ext G G' → Sim K env' M' G' σ' H' → Q0 env' M' → Q σ' H'
def LiftX (K : PySem.W.Frag) (G : Hp) (E0 : Value → Option PV → Sl → Mem → Prop) (W : WX) : Prop := ∀ c pl env' M' d σ' H' G', Ext G G' → Sim K env' M' G' σ' H' → ExR K G' d pl → E0 c pl env' M' → W c d σ' H'
section
variable {K : PySem.W.Frag} {G G' : Hp}
theorem LiftV.mono {Q0 : PK} {Q : VK} (h : LiftV K G Q0 Q) (e : Ext G G') : LiftV K G' Q0 Q := fun x M' v H' G1 e1 => h x M' v H' G1 (e.trans e1)
theorem LiftE.mono {Q0 : EK} {Q : XK} (h : LiftE K G Q0 Q) (e : Ext G G') : LiftE K G' Q0 Q := fun c x M' v H' G1 e1 => h c x M' v H' G1 (e.trans e1)
theorem LiftB.mono {Q0 : Bool → Mem → Prop} {Q : Bool → Hp → Prop} (h : LiftB K G Q0 Q) (e : Ext G G') : LiftB K G' Q0 Q := fun x M' H' G1 e1 => h x M' H' G1 (e.trans e1)
theorem LiftA.mono {Q0 : List PV → Mem → Prop} {Q : List V → Hp → Prop} (h : LiftA K G Q0 Q) (e : Ext G G') : LiftA K G' Q0 Q := fun x M' v H' G1 e1 => h x M' v H' G1 (e.trans e1)
theorem LiftN.mono {Q0 : Sl → Mem → Prop} {Q : L2.St → Hp → Prop} (h : LiftN K G Q0 Q) (e : Ext G G') : LiftN K G' Q0 Q := fun env' M' σ' H' G1 e1 => h env' M' σ' H' G1 (e.trans e1)
theorem LiftX.mono {Q0 : Value → Option PV → Sl → Mem → Prop} {Q : WX} (h : LiftX K G Q0 Q) (e : Ext G G') : LiftX K G' Q0 Q := fun c pl env' M' d σ' H' G1 e1 => h c pl env' M' d σ' H' G1 (e.trans e1)
end

def tie (K : PySem.W.Frag) (W : WX) (t : QT) : TE := fun σ H Q => ∃ env M G Q0 E0, Sim K env M G σ H ∧ t env M Q0 E0 ∧ LiftV K G Q0 Q ∧ LiftE K G E0 (WE W σ)
def tieB (K : PySem.W.Frag) (W : WX) (t : QB) : TT := fun σ H Q => ∃ env M G Q0 E0, Sim K env M G σ H ∧ t env M Q0 E0 ∧ LiftB K G Q0 Q ∧ LiftE K G E0 (WE W σ)
def tieA (K : PySem.W.Frag) (W : WX) (t : QA) : TA := fun σ H Q => ∃ env M G Q0 E0, Sim K env M G σ H ∧ t env M Q0 E0 ∧ LiftA K G Q0 Q ∧ LiftE K G E0 (WE W σ)
structure LiftD (K : PySem.W.Frag) (W : WX) (G : Hp) (D0 : QEnds) (D : Ends) : Prop where
  nx : LiftN K G D0.nx D.nx
  rt : LiftV K G D0.rt D.rt
  bk : LiftN K G D0.bk D.bk
  ct : LiftN K G D0.ct D.ct
  ex : LiftX K G D0.ex W
theorem LiftD.mono {K : PySem.W.Frag} {W : WX} {G G' : Hp} {D0 : QEnds} {D : Ends} (h : LiftD K W G D0 D) (e : Ext G G') : LiftD K W G' D0 D := ⟨h.nx.mono e, h.rt.mono e, h.bk.mono e, h.ct.mono e, h.ex.mono e⟩
def tieS (K : PySem.W.Frag) (W : WX) (t : QS) : TS := fun D σ H => ∃ env M G D0, Sim K env M G σ H ∧ t D0 env M ∧ LiftD K W G D0 D

abbrev QE (X : Cx) (W : WX) (e : Expr) (t : QT) : Prop := PE X e (tie X.K W t)
abbrev QPT (X : Cx) (W : WX) (e : Expr) (t : QB) : Prop := PT X e (tieB X.K W t)
abbrev QPA (X : Cx) (W : WX) (es : List Expr) (t : QA) : Prop := PA X es (tieA X.K W t)
abbrev QPS (X : Cx) (W : WX) (st : Stmt) (t : QS) : Prop := PS X st (tieS X.K W t)
abbrev QPSs (X : Cx) (W : WX) (st : List Stmt) (t : QS) : Prop := PSs X st (tieS X.K W t)

section
variable {X : Cx}
theorem _root_.L2.PE.imp {e : Expr} {t t' : TE} (h : PE X e t) (f : ∀ σ H Q, t' σ H Q → t σ H Q) : PE X e t' := ⟨fun pins s σ H Q I q => h.run pins s σ H Q I (f σ H Q q)⟩
theorem _root_.L2.PT.imp {e : Expr} {t t' : TT} (h : PT X e t) (f : ∀ σ H Q, t' σ H Q → t σ H Q) : PT X e t' := ⟨fun pins s σ H Q I q => h.run pins s σ H Q I (f σ H Q q)⟩
theorem _root_.L2.PW.imp {e : Expr} {t t' : TT} (h : PW X e t) (f : ∀ σ H Q, t' σ H Q → t σ H Q) : PW X e t' := ⟨fun w pins s σ H Q I q => h.run w pins s σ H Q I (f σ H Q q)⟩
theorem _root_.L2.PA.imp {e : List Expr} {t t' : TA} (h : PA X e t) (f : ∀ σ H Q, t' σ H Q → t σ H Q) : PA X e t' := ⟨fun pos pins s σ H Q I q => h.run pos pins s σ H Q I (f σ H Q q)⟩
theorem _root_.L2.PS.imp {e : Stmt} {t t' : TS} (h : PS X e t) (f : ∀ D σ H, t' D σ H → t D σ H) : PS X e t' := ⟨fun pins s σ H D I q => h.run pins s σ H D I (f D σ H q)⟩
theorem _root_.L2.PSs.imp {e : List Stmt} {t t' : TS} (h : PSs X e t) (f : ∀ D σ H, t' D σ H → t D σ H) : PSs X e t' := ⟨fun pins s σ H D I q => h.run pins s σ H D I (f D σ H q)⟩
end

/-! ### names, constants -/
section
variable {X : Cx} {W : WX}
def qVar (i : Nat) : QT := fun env M Q _ => ∃ x, env[i]? = some (some x) ∧ Q x M
def qC (x : PV) : QT := fun _ M Q _ => Q x M
theorem qe_var {i : Nat} {e : Expr} (h : PE X e (tVar i)) : QE X W e (qVar i) := h.imp fun σ H Q ⟨env, M, G, Q0, E0, S, ⟨x, e1, q⟩, L, _⟩ => by
  obtain ⟨v, h1, h2⟩ := S.env.get i x e1
  exact ⟨v, h1, L x M v H G (Ext.refl G) S.wf h2 q⟩
theorem qe_c {e : Expr} {v : V} {x : PV} (h : PE X e (tC v)) (r : ∀ K G, Rep K G x v) : QE X W e (qC x) := h.imp fun σ H Q ⟨env, M, G, Q0, E0, S, q, L, _⟩ =>
  L x M v H G (Ext.refl G) S.wf (r _ _) q
theorem qe_int {i j pos} : QE X W (.Constant (.int i) j pos) (qC (.int i)) := qe_c pe_int fun _ _ => rfl
theorem qe_bl {b j pos} : QE X W (.Constant (.bool b) j pos) (qC (.bl b)) := qe_c pe_bl fun _ _ => rfl
theorem qe_non {j pos} : QE X W (.Constant .none j pos) (qC .non) := qe_c pe_non fun _ _ => rfl
theorem qe_str {x j pos} : QE X W (.Constant (.str x) j pos) (qC (.str x)) := qe_c pe_str fun _ _ => rfl
theorem qv (i : Nat) {x : Str} {pos : Pos} (hN : X.N[i]? = some x := by rfl) (hv : Vis X.env.scope x := by first | exact Or.inl rfl | exact Or.inr (Or.inl rfl) | exact Or.inr (Or.inr rfl)) (hd : (x == ("__debug__" : Str)) = false := by decide)
    (hcd : (x == ("__classdict__" : Str)) = false := by decide) : QE X W (.Name x pos) (qVar i) := qe_var (pe_var hN hv hd hcd)

/-! ### two in a row -/
/-- a value-level operation of two -/
abbrev F2 := PV → PV → Mem → PK → Prop
def OpQ (X : Cx) (g : Value → Value → Sem Value) (f : F2) : Prop := OpR X g fun a b H Q => ∃ x y M G Q0, Rep X.K G x a ∧ Rep X.K G y b ∧ Wf X.K M H G ∧ f x y M Q0 ∧ LiftV X.K G Q0 Q
def q2 (f : F2) (ta tb : QT) : QT := fun env M Q E => ta env M (fun x M1 => tb env M1 (fun y M2 => f x y M2 Q) E) E
theorem tie2 {ta tb : QT} {f : F2} {r : R2} {σ : L2.St} {H : Hp} {Q : VK} (hr : ∀ a b H Q, (∃ x y M G Q0, Rep X.K G x a ∧ Rep X.K G y b ∧ Wf X.K M H G ∧ f x y M Q0 ∧ LiftV X.K G Q0 Q) → r a b H Q)
    (h : tie X.K W (q2 f ta tb) σ H Q) : tOp r (tie X.K W ta) (tie X.K W tb) σ H Q := by
  obtain ⟨env, M, G, Q0, E0, S, q, L, LE⟩ := h
  refine ⟨env, M, G, _, E0, S, q, fun x M1 v H1 G1 e1 w1 r1 q1 => ?_, LE⟩
  refine ⟨env, M1, G1, _, E0, S.to e1 w1, q1, fun y M2 u H2 G2 e2 w2 r2 q2 => ?_, LE.mono e1⟩
  exact hr _ _ _ _ ⟨x, y, M2, G2, Q0, Rep.mono e2 x v r1, r2, w2, q2, L.mono (e1.trans e2)⟩
theorem qe_bin {op : Operator} {a b : Expr} {ta tb : QT} {f : F2} {pos : Pos} (ho : OpQ X (binaryOp op) f) (ha : QE X W a ta) (hb : QE X W b tb) : QE X W (.BinOp a op b pos) (q2 f ta tb) :=
  (pe_op ho ha hb).imp fun σ H Q h => tie2 (fun _ _ _ _ z => z) h
theorem qe_cmp {op : CmpOp} {a b : Expr} {ta tb : QT} {f : F2} {pos : Pos} (ho : OpQ X (compareOp op) f) (ha : QE X W a ta) (hb : QE X W b tb) (hm : behindInMarks op b = false := by first | exact nomark _ | rfl) : QE X W (.Compare a [op] [b] pos) (q2 f ta tb) :=
  (pe_cmpR ho ha hb hm).imp fun σ H Q h => tie2 (fun _ _ _ _ z => z) h
end
end TQ

namespace TQ
open PySem PySem.Spec PyProof.Rows L2

/-- the list at an address -/
def ml (o : Option MO) : Option (List PV) := match o with
  | some (.lst xs) => some xs
  | _ => none
theorem ml_some {o : Option MO} {xs : List PV} (h : ml o = some xs) : o = some (.lst xs) := by
  cases o with
  | none => cases h
  | some m => cases m <;> first | (cases h; rfl) | cases h
/-- the items of a list -/
def sq (M : Mem) : PV → Option (List PV)
  | .lst xs => some xs
  | .ref a => ml (M a)
  | _ => none
/-- the items of what len, indexes and loops take -/
def sqA (M : Mem) : PV → Option (List PV)
  | .scr ns => some (ns.map PV.int)
  | x => sq M x
section
variable {K : PySem.W.Frag} {G H : Hp} {M : Mem} {x : PV} {v : V} {xs : List PV}
theorem sq_H (h : sq M x = some xs) (r : Rep K G x v) (w : Wf K M H G) : ∃ p vs, v = .ref p ∧ H p = some (.lst vs) ∧ Reps K G xs vs := by
  cases x with
  | lst ys =>
    cases h
    obtain ⟨a, vs, h1, h2, h3⟩ := r
    exact ⟨a, vs, h1, w.sub _ _ h2, h3⟩
  | ref a =>
    obtain ⟨_, vs, h1, h2⟩ := w.mem a _ (ml_some (o := M a) h)
    exact ⟨a, vs, r, h1, h2⟩
  | _ => cases h
theorem sqA_H (h : sqA M x = some xs) (r : Rep K G x v) (w : Wf K M H G) : ∃ p vs, v = .ref p ∧ SqL K H p vs ∧ Reps K G xs vs := by
  cases x with
  | scr ns =>
    cases h
    obtain ⟨a, h1, h2⟩ := r
    exact ⟨a, _, h1, ext_l w.sub h2, Reps.ints ns⟩
  | _ =>
    obtain ⟨p, vs, h1, h2, h3⟩ := sq_H (h := by exact h) r w
    exact ⟨p, vs, h1, SqL.of h2, h3⟩
end

/-! ### data, for == and in -/
mutual
def dat0 : PV → Option PyData
  | .non => some .none
  | .bl b => some (.bool b)
  | .int i => some (.int i)
  | .str x => some (.str x)
  | .tup xs => (dat0s xs).map .tuple
  | .lst xs => (dat0s xs).map .list
  | _ => none
def dat0s : List PV → Option (List PyData)
  | [] => some []
  | x :: xs => (dat0 x).bind fun d => (dat0s xs).map fun ds => d :: ds
end
def dat (M : Mem) : PV → Option PyData
  | .ref a => (ml (M a)).bind fun xs => (dat0s xs).map .list
  | .scr ns => some (.list (ns.map .int))
  | x => dat0 x
section
variable {K : PySem.W.Frag} {G H : Hp} {M : Mem}
mutual
theorem dat0_dp (e : Ext G H) : ∀ (x : PV) (v : V) (d : PyData), dat0 x = some d → Rep K G x v → Dp K H v d
  | .non, _, _, h, r => by cases h; cases r; exact .non
  | .bl b, _, _, h, r => by cases h; cases r; exact .bl b
  | .int b, _, _, h, r => by cases h; cases r; exact .int b
  | .str b, _, _, h, r => by cases h; cases r; exact .str b
  | .tup xs, _, _, h, r => by
    obtain ⟨a, vs, h1, h2, h3⟩ := r
    unfold dat0 at h
    cases hd : dat0s xs with
    | none => rw [hd] at h; cases h
    | some ds =>
      rw [hd] at h
      cases h
      subst h1
      exact .tup (ext_t e h2) (dat0s_dp e xs vs ds hd h3)
  | .lst xs, _, _, h, r => by
    obtain ⟨a, vs, h1, h2, h3⟩ := r
    unfold dat0 at h
    cases hd : dat0s xs with
    | none => rw [hd] at h; cases h
    | some ds =>
      rw [hd] at h
      cases h
      subst h1
      exact .lst (SqL.of (e _ _ h2)) (dat0s_dp e xs vs ds hd h3)
  | .scr _, _, _, h, _ => by cases h
  | .obj _ _ _, _, _, h, _ => by cases h
  | .ref _, _, _, h, _ => by cases h
  | .ty _, _, _, h, _ => by cases h
theorem dat0s_dp (e : Ext G H) : ∀ (xs : List PV) (vs : List V) (ds : List PyData), dat0s xs = some ds → Reps K G xs vs → DpAll K H vs ds
  | [], _, _, h, r => by cases h; cases r; exact .nil
  | x :: xs, _, _, h, r => by
    obtain ⟨v, ws, rfl, h2, h3⟩ := r
    unfold dat0s at h
    cases hd : dat0 x with
    | none => rw [hd] at h; cases h
    | some d =>
      rw [hd] at h
      cases hs : dat0s xs with
      | none => rw [hs] at h; cases h
      | some ds =>
        rw [hs] at h
        cases h
        exact .cons (dat0_dp e x v d hd h2) (dat0s_dp e xs ws ds hs h3)
end
theorem ints_dp : ∀ (ns : List Int), DpAll K H (ns.map V.int) (ns.map PyData.int)
  | [] => .nil
  | n :: ns => .cons (.int n) (ints_dp ns)
theorem dat_dp (w : Wf K M H G) {x : PV} {v : V} {d : PyData} (h : dat M x = some d) (r : Rep K G x v) : Dp K H v d := by
  cases x with
  | ref a =>
    replace h : ((ml (M a)).bind fun xs => (dat0s xs).map .list) = some d := h
    cases hm : ml (M a) with
    | none => rw [hm] at h; cases h
    | some ys =>
      rw [hm] at h
      obtain ⟨_, vs, h1, h2⟩ := w.mem a _ (ml_some hm)
      replace h : (dat0s ys).map .list = some d := h
      cases hd : dat0s ys with
      | none => rw [hd] at h; cases h
      | some ds =>
        rw [hd] at h
        cases h
        cases r
        exact .lst (SqL.of h1) (dat0s_dp w.sub ys vs ds hd h2)
  | scr ns =>
    cases h
    obtain ⟨a, h1, h2⟩ := r
    subst h1
    exact .lst (ext_l w.sub h2) (ints_dp ns)
  | _ => exact dat0_dp w.sub _ v d h r
mutual
theorem dat0_plain : ∀ (x : PV) (d : PyData), dat0 x = some d → d.plain = true
  | .non, _, h => by cases h; rfl
  | .bl b, _, h => by cases h; rfl
  | .int b, _, h => by cases h; rfl
  | .str b, _, h => by cases h; rfl
  | .tup xs, _, h => by
    unfold dat0 at h
    cases hd : dat0s xs with
    | none => rw [hd] at h; cases h
    | some ds => rw [hd] at h; cases h; exact dat0s_plain xs ds hd
  | .lst xs, _, h => by
    unfold dat0 at h
    cases hd : dat0s xs with
    | none => rw [hd] at h; cases h
    | some ds => rw [hd] at h; cases h; exact dat0s_plain xs ds hd
  | .scr _, _, h => by cases h
  | .obj _ _ _, _, h => by cases h
  | .ref _, _, h => by cases h
  | .ty _, _, h => by cases h
theorem dat0s_plain : ∀ (xs : List PV) (ds : List PyData), dat0s xs = some ds → PyData.plainAll ds = true
  | [], _, h => by cases h; rfl
  | x :: xs, _, h => by
    unfold dat0s at h
    cases hd : dat0 x with
    | none => rw [hd] at h; cases h
    | some d =>
      rw [hd] at h
      cases hs : dat0s xs with
      | none => rw [hs] at h; cases h
      | some ds =>
        rw [hs] at h
        cases h
        show (d.plain && PyData.plainAll ds) = true
        rw [dat0_plain x d hd, dat0s_plain xs ds hs]; rfl
end
theorem ints_plain : ∀ ns : List Int, PyData.plainAll (ns.map PyData.int) = true
  | [] => rfl
  | n :: ns => by show (true && _) = true; rw [ints_plain ns]; rfl
theorem dat_plain {x : PV} {d : PyData} (h : dat M x = some d) : d.plain = true := by
  cases x with
  | ref a =>
    replace h : ((ml (M a)).bind fun xs => (dat0s xs).map .list) = some d := h
    cases hm : ml (M a) with
    | none => rw [hm] at h; cases h
    | some ys =>
      rw [hm] at h
      replace h : (dat0s ys).map .list = some d := h
      cases hd : dat0s ys with
      | none => rw [hd] at h; cases h
      | some ds => rw [hd] at h; cases h; exact dat0s_plain ys ds hd
  | scr ns => cases h; exact ints_plain ns
  | _ => exact dat0_plain _ d h
end

/-! ### values of two, by their kinds -/
def bAdd : F2 := fun x y M Q => match x, y with
  | .int i, .int j => Q (.int (i + j)) M
  | .str a, .str b => a.length + b.length ≤ sizeLine ∧ Q (.str (a ++ b)) M
  | x, y => match sq M x, sq M y with
    | some xs, some ys => xs.length + ys.length ≤ sizeLine ∧ Q (.lst (xs ++ ys)) M
    | _, _ => False
def bSub : F2 := fun x y M Q => match x, y with
  | .int i, .int j => Q (.int (i - j)) M
  | _, _ => False
/-- a text so many times over -/
def repS (x : Str) (n : Int) : Str := ⟨(List.replicate n.toNat x.cps).foldl (· ++ ·) #[]⟩
def bMul : F2 := fun x y M Q => match x, y with
  | .int i, .int j => IntMulOk i j ∧ Q (.int (i * j)) M
  | .str a, .int n => (0 ≤ n ∧ n ≤ 100000 ∧ a.length ≤ 100) ∧ Q (.str (repS a n)) M
  | x, .int n => match sq M x with
    | some xs => (0 ≤ n ∧ n ≤ 1000 ∧ xs.length ≤ 1000) ∧ Q (.lst (List.replicate n.toNat xs).flatten) M
    | none => False
  | _, _ => False
def bDiv : F2 := fun x y M Q => match x, y with
  | .int i, .int j => CDivW i j ∧ Q (.int (i / j)) M
  | _, _ => False
def bMod : F2 := fun x y M Q => match x, y with
  | .int i, .int j => 0 < j ∧ Q (.int (i % j)) M
  | _, _ => False
def bPow : F2 := fun x y M Q => match x, y with
  | .int i, .int j => CPow i j ∧ Q (.int (i ^ j.toNat)) M
  | _, _ => False
def bEqP (neg : Bool) : F2 := fun x y M Q => match x, y with
  | .int i, .int j => Q (.bl (if neg then !decide (i = j) else decide (i = j))) M
  | .str i, .str j => Q (.bl (if neg then !decide (i = j) else decide (i = j))) M
  | .bl i, .bl j => Q (.bl (if neg then !decide (i = j) else decide (i = j))) M
  | x, y => match dat M x, dat M y with
    | some d, some e => min d.depth e.depth ≤ 64 ∧ Q (.bl (if neg then !PyData.eqv d e else PyData.eqv d e)) M
    | _, _ => False
abbrev bEq : F2 := bEqP false
abbrev bNe : F2 := bEqP true
def bLt : F2 := fun x y M Q => match x, y with
  | .int i, .int j => Q (.bl (decide (i < j))) M
  | _, _ => False
def bLe : F2 := fun x y M Q => match x, y with
  | .int i, .int j => Q (.bl (decide (i ≤ j))) M
  | _, _ => False
def bGt : F2 := fun x y M Q => match x, y with
  | .int i, .int j => Q (.bl (decide (j < i))) M
  | _, _ => False
def bGe : F2 := fun x y M Q => match x, y with
  | .int i, .int j => Q (.bl (decide (j ≤ i))) M
  | _, _ => False
/-- x is None -/
def bIsN (neg : Bool) : F2 := fun x y M Q => match y with
  | .non => (match x with
    | .non => Q (.bl (!neg)) M
    | _ => Q (.bl neg) M)
  | _ => False

section
variable {X : Cx}
theorem OpQ.of {g : Value → Value → Sem Value} {r : R2} {f : F2} (h : OpR X g r) (k : ∀ a b H Q, (∃ x y M G Q0, Rep X.K G x a ∧ Rep X.K G y b ∧ Wf X.K M H G ∧ f x y M Q0 ∧ LiftV X.K G Q0 Q) → r a b H Q) : OpQ X g f :=
  fun pins s σ H x y v u Q I rx ry q => h pins s σ H x y v u Q I rx ry (k _ _ _ _ q)
theorem opq_int {g : Value → Value → Sem Value} {C : Int → Int → Prop} {e : Int → Int → V} {e' : Int → Int → PV} {f : F2} (h : OpR X g (rI C e)) (he : ∀ i j K G, Rep K G (e' i j) (e i j))
    (k : ∀ x y M Q, f x y M Q → ∃ i j, x = .int i ∧ y = .int j ∧ C i j ∧ Q (e' i j) M) : OpQ X g f := OpQ.of h fun a b H Q ⟨x, y, M, G, Q0, rx, ry, w, q, L⟩ => by
  obtain ⟨i, j, rfl, rfl, c, q'⟩ := k x y M Q0 q
  exact ⟨i, j, rx, ry, c, L (e' i j) M _ H G (Ext.refl G) w (he i j _ _) q'⟩
theorem opq_int0 {g : Value → Value → Sem Value} {e : Int → Int → V} {e' : Int → Int → PV} {f : F2} (h : OpR X g (rI0 e)) (he : ∀ i j K G, Rep K G (e' i j) (e i j))
    (k : ∀ x y M Q, f x y M Q → ∃ i j, x = .int i ∧ y = .int j ∧ Q (e' i j) M) : OpQ X g f := OpQ.of h fun a b H Q ⟨x, y, M, G, Q0, rx, ry, w, q, L⟩ => by
  obtain ⟨i, j, rfl, rfl, q'⟩ := k x y M Q0 q
  exact ⟨i, j, rx, ry, L (e' i j) M _ H G (Ext.refl G) w (he i j _ _) q'⟩
theorem oq_sub : OpQ X (binaryOp .Sub) bSub := opq_int0 op_sub (e' := fun i j => .int (i - j)) (fun _ _ _ _ => rfl) fun x y M Q q => by
  cases x <;> cases y <;> first | exact q.elim | exact ⟨_, _, rfl, rfl, q⟩
theorem oq_mod : OpQ X (binaryOp .Mod) bMod := opq_int op_mod (e' := fun i j => .int (i % j)) (fun _ _ _ _ => rfl) fun x y M Q q => by
  cases x <;> cases y <;> first | exact q.elim | exact ⟨_, _, rfl, rfl, q⟩
theorem oq_div : OpQ X (binaryOp .FloorDiv) bDiv := opq_int op_fdivW (e' := fun i j => .int (i / j)) (fun _ _ _ _ => rfl) fun x y M Q q => by
  cases x <;> cases y <;> first | exact q.elim | exact ⟨_, _, rfl, rfl, q⟩
theorem oq_pow : OpQ X (binaryOp .Pow) bPow := opq_int op_pow (e' := fun i j => .int (i ^ j.toNat)) (fun _ _ _ _ => rfl) fun x y M Q q => by
  cases x <;> cases y <;> first | exact q.elim | exact ⟨_, _, rfl, rfl, q⟩
theorem oq_lt : OpQ X (compareOp .Lt) bLt := opq_int0 op_lt (e' := fun i j => .bl (decide (i < j))) (fun _ _ _ _ => rfl) fun x y M Q q => by
  cases x <;> cases y <;> first | exact q.elim | exact ⟨_, _, rfl, rfl, q⟩
theorem oq_le : OpQ X (compareOp .LtE) bLe := opq_int0 op_le (e' := fun i j => .bl (decide (i ≤ j))) (fun _ _ _ _ => rfl) fun x y M Q q => by
  cases x <;> cases y <;> first | exact q.elim | exact ⟨_, _, rfl, rfl, q⟩
theorem oq_gt : OpQ X (compareOp .Gt) bGt := opq_int0 op_gt (e' := fun i j => .bl (decide (j < i))) (fun _ _ _ _ => rfl) fun x y M Q q => by
  cases x <;> cases y <;> first | exact q.elim | exact ⟨_, _, rfl, rfl, q⟩
theorem oq_ge : OpQ X (compareOp .GtE) bGe := opq_int0 op_ge (e' := fun i j => .bl (decide (j ≤ i))) (fun _ _ _ _ => rfl) fun x y M Q q => by
  cases x <;> cases y <;> first | exact q.elim | exact ⟨_, _, rfl, rfl, q⟩
theorem op_mulA : OpR X (binaryOp .Mult) (rI IntMulOk fun i j => .int (i * j)) := opI fun _ _ _ _ _ _ _ hc q => mul_int q hc
theorem op_mulS : OpR X (binaryOp .Mult) (fun x y H Q => ∃ a n, x = .str a ∧ y = .int n ∧ (0 ≤ n ∧ n ≤ 100000 ∧ a.length ≤ 100) ∧ Q (.str (repS a n)) H) := by
  intro pins s σ H x y v u Q I rx ry h
  obtain ⟨a, n, rfl, rfl, ⟨h0, h1, h2⟩, q⟩ := h
  obtain ⟨t, rfl⟩ := rx
  obtain ⟨t', rfl⟩ := ry
  have hm : a.length * n.toNat ≤ 100 * 100000 := Nat.mul_le_mul h2 (by omega)
  refine P.mul_str ?_ ?_ ?_ ?_
  · rw [decide_eq_false (by omega), decide_eq_false (by omega)]; rfl
  · intro hn _ hg
    have : (100 : Int) ≤ (2 ^ 63 - 1) / n := by
      rw [Int.le_ediv_iff_mul_le (by omega)]
      omega
    omega
  · intro _ _
    show decide (a.length * n.toNat > sizeLine) = false
    rw [sizeLine_eq]
    exact decide_eq_false (by omega)
  · have fold_one : ∀ (m : Nat), (List.replicate m a.cps).foldl (· ++ ·) #[] = (List.replicate m a.cps).foldl (· ++ ·) #[] := fun _ => rfl
    split
    · have e : n = 0 := by omega
      subst e
      exact ⟨by decide, .str _, H, I.tok _, ⟨_, rfl⟩, q⟩
    · split
      · rename_i hn hz
        simp only [Bool.or_eq_true, beq_iff_eq] at hz
        refine ⟨.str _, H, I, ⟨_, rfl⟩, ?_⟩
        have e : repS a n = a := by
          rcases hz with hz | hz
          · subst hz
            unfold repS
            simp
          · have ha : a.cps = #[] := Array.eq_empty_of_size_eq_zero hz
            unfold repS
            rw [ha]
            have : ∀ m : Nat, (List.replicate m (#[] : Array Nat)).foldl (· ++ ·) #[] = #[] := fun m => by
              induction m with
              | zero => rfl
              | succ m ih => rw [List.replicate_succ, List.foldl_cons]; simpa using ih
            rw [this]
            cases a
            simp at ha
            rw [ha]
        rw [← e]; exact q
      · refine ⟨?_, .str _, H, I.tok _, ⟨_, rfl⟩, q⟩
        have len : ∀ (m : Nat) (acc : Array Nat), ((List.replicate m a.cps).foldl (· ++ ·) acc).size = acc.size + m * a.cps.size := fun m => by
          induction m with
          | zero => intro acc; simp
          | succ m ih => intro acc; rw [List.replicate_succ, List.foldl_cons, ih, Array.size_append, Nat.succ_mul]; omega
        show ((List.replicate n.toNat a.cps).foldl (· ++ ·) #[]).size ≤ sizeLine
        rw [len, sizeLine_eq]
        have hc : a.cps.size = a.length := rfl
        rw [hc, Nat.mul_comm]
        simp
        omega
end
end TQ

namespace TQ
open PySem PySem.Spec PyProof.Rows L2
section
variable {K : PySem.W.Frag} {G H : Hp} {M : Mem} {Q0 : PK} {Q : VK} {p : Addr} {xs : List PV} {vs : List V}
theorem give_lst (L : LiftV K G Q0 Q) (w : Wf K M H G) (hp : H p = none) (r : Reps K G xs vs) (q : Q0 (.lst xs) M) : Q (.ref p) (upd H p (.lst vs)) :=
  L (.lst xs) M _ _ _ (Ext.new (w.free hp)) (w.newG hp) ⟨p, vs, rfl, upd_same, Reps.mono (Ext.new (w.free hp)) _ _ r⟩ q
theorem give_tup (L : LiftV K G Q0 Q) (w : Wf K M H G) (hp : H p = none) (r : Reps K G xs vs) (q : Q0 (.tup xs) M) : Q (.ref p) (upd H p (.tup vs)) :=
  L (.tup xs) M _ _ _ (Ext.new (w.free hp)) (w.newG hp) ⟨p, vs, rfl, SqT.of upd_same, Reps.mono (Ext.new (w.free hp)) _ _ r⟩ q
/-- the same value as it stands -/
theorem give (L : LiftV K G Q0 Q) (w : Wf K M H G) {x : PV} {v : V} (r : Rep K G x v) (q : Q0 x M) : Q v H := L x M v H G (Ext.refl G) w r q
theorem mok_lst (r : Reps K G xs vs) : MOk K G (upd H p (.lst vs)) p (.lst xs) := ⟨vs, upd_same, r⟩
end
section
variable {X : Cx}
theorem oq_add : OpQ X (binaryOp .Add) bAdd := by
  intro pins s σ H a b v u Q I ra rb ⟨x, y, M, G, Q0, rx, ry, w, q, L⟩
  have lists : ∀ {x y : PV}, (match sq M x, sq M y with
      | some xs, some ys => xs.length + ys.length ≤ sizeLine ∧ Q0 (.lst (xs ++ ys)) M
      | _, _ => False) → Rep X.K G x a → Rep X.K G y b → wpAny (model X.prog X.w) X.A (binaryOp .Add v u) (EP X pins σ Q) X.xe s := fun {x y} q rx ry => by
    cases hx : sq M x with
    | none => rw [hx] at q; exact q.elim
    | some xs =>
      cases hy : sq M y with
      | none => rw [hx, hy] at q; exact q.elim
      | some ys =>
        rw [hx, hy] at q
        obtain ⟨p1, vs, e1, h1, r1⟩ := sq_H hx rx w
        obtain ⟨p2, ws, e2, h2, r2⟩ := sq_H hy ry w
        obtain ⟨hz, q⟩ := q
        refine op_cat pins s σ H a b v u Q I ra rb ⟨p1, p2, vs, ws, e1, e2, h1, h2, by rw [← r1.length, ← r2.length]; exact hz, fun p hp => give_lst L w hp (r1.append r2) q⟩
  cases x <;> cases y <;> first
    | exact op_add pins s σ H a b v u Q I ra rb ⟨_, _, rx, ry, give L w (x := .int _) rfl q⟩
    | exact op_add_str pins s σ H a b v u Q I ra rb ⟨_, _, rx, ry, q.1, give L w (x := .str _) rfl q.2⟩
    | exact lists q rx ry
theorem oq_mul : OpQ X (binaryOp .Mult) bMul := by
  intro pins s σ H a b v u Q I ra rb ⟨x, y, M, G, Q0, rx, ry, w, q, L⟩
  have lists : ∀ {x : PV} {n : Int}, (match sq M x with
      | some xs => (0 ≤ n ∧ n ≤ 1000 ∧ xs.length ≤ 1000) ∧ Q0 (.lst (List.replicate n.toNat xs).flatten) M
      | none => False) → Rep X.K G x a → Rep X.K G (.int n) b → wpAny (model X.prog X.w) X.A (binaryOp .Mult v u) (EP X pins σ Q) X.xe s := fun {x n} q rx ry => by
    cases hx : sq M x with
    | none => rw [hx] at q; exact q.elim
    | some xs =>
      rw [hx] at q
      obtain ⟨p1, vs, e1, h1, r1⟩ := sq_H hx rx w
      obtain ⟨⟨g0, g1, g2⟩, q⟩ := q
      have hm : vs.length * n.toNat ≤ 1000 * 1000 := Nat.mul_le_mul (by rw [← r1.length]; exact g2) (by omega)
      have rep : ∀ m : Nat, Reps X.K G (List.replicate m xs).flatten (List.replicate m vs).flatten := fun m => by
        induction m with
        | zero => exact Reps.nil
        | succ m ih => rw [List.replicate_succ, List.replicate_succ, List.flatten_cons, List.flatten_cons]; exact r1.append ih
      refine op_rep pins s σ H a b v u Q I ra rb ⟨p1, n, vs, e1, ry, h1, by omega, by omega, by rw [sizeLine_eq]; omega, fun p hp => give_lst L w hp (rep _) q⟩
  cases x <;> cases y <;> first
    | exact op_mulA pins s σ H a b v u Q I ra rb ⟨_, _, rx, ry, q.1, give L w (x := .int _) rfl q.2⟩
    | exact op_mulS pins s σ H a b v u Q I ra rb ⟨_, _, rx, ry, q.1, give L w (x := .str _) rfl q.2⟩
    | exact lists q rx ry
    | exact q.elim
theorem op_eqN (hu : X.A.units + 64 < cLine) : OpR X (compareOp .Eq) (fun x y H Q => ∃ d e, Dp X.K H x d ∧ Dp X.K H y e ∧ d.plain = true ∧ e.plain = true ∧ min d.depth e.depth ≤ 64 ∧ Q (.bl (PyData.eqv d e)) H) := by
  intro pins s σ H x y v u Q I rx ry h
  obtain ⟨d, e, hd, he, sd, se, hm, q⟩ := h
  obtain ⟨as, r1⟩ := Dp.reads I d x v hd rx
  obtain ⟨bs, r2⟩ := Dp.reads I e y u he ry
  exact SeqAt.eq_plain r1 r2 sd se (by omega) ⟨.bl _, H, I, rfl, q⟩
theorem op_neN (hu : X.A.units + 64 < cLine) : OpR X (compareOp .NotEq) (fun x y H Q => ∃ d e, Dp X.K H x d ∧ Dp X.K H y e ∧ d.plain = true ∧ e.plain = true ∧ min d.depth e.depth ≤ 64 ∧ Q (.bl (!PyData.eqv d e)) H) := by
  intro pins s σ H x y v u Q I rx ry h
  obtain ⟨d, e, hd, he, sd, se, hm, q⟩ := h
  obtain ⟨as, r1⟩ := Dp.reads I d x v hd rx
  obtain ⟨bs, r2⟩ := Dp.reads I e y u he ry
  exact SeqAt.ne_plain r1 r2 sd se (by omega) ⟨.bl _, H, I, rfl, q⟩
theorem dec_iff {α β : Type} [DecidableEq α] [DecidableEq β] {a b : α} {c d : β} (h : a = b ↔ c = d) : decide (a = b) = decide (c = d) := by
  rw [Bool.eq_iff_iff]; simp [h]
theorem oq_eq (hu : X.A.units + 64 < cLine) : OpQ X (compareOp .Eq) bEq := by
  intro pins s σ H a b v u Q I ra rb ⟨x, y, M, G, Q0, rx, ry, w, q, L⟩
  have data : ∀ {x y : PV}, (match dat M x, dat M y with
      | some d, some e => min d.depth e.depth ≤ 64 ∧ Q0 (.bl (if false then !PyData.eqv d e else PyData.eqv d e)) M
      | _, _ => False) → Rep X.K G x a → Rep X.K G y b → wpAny (model X.prog X.w) X.A (compareOp .Eq v u) (EP X pins σ Q) X.xe s := fun {x y} q rx ry => by
    cases hx : dat M x with
    | none => rw [hx] at q; exact q.elim
    | some d =>
      cases hy : dat M y with
      | none => rw [hx, hy] at q; exact q.elim
      | some e =>
        rw [hx, hy] at q
        exact op_eqN hu pins s σ H a b v u Q I ra rb ⟨d, e, dat_dp w hx rx, dat_dp w hy ry, dat_plain hx, dat_plain hy, q.1, give L w (x := .bl _) rfl q.2⟩
  cases x <;> cases y <;> first
    | exact data q rx ry
    | (cases rx; cases ry; exact op_eq pins s σ H _ _ v u Q I ra rb ⟨rfl, give L w (x := .bl _) (show V.bl _ = V.bl _ by simp) q⟩)
theorem oq_ne (hu : X.A.units + 64 < cLine) : OpQ X (compareOp .NotEq) bNe := by
  intro pins s σ H a b v u Q I ra rb ⟨x, y, M, G, Q0, rx, ry, w, q, L⟩
  have data : ∀ {x y : PV}, (match dat M x, dat M y with
      | some d, some e => min d.depth e.depth ≤ 64 ∧ Q0 (.bl (if true then !PyData.eqv d e else PyData.eqv d e)) M
      | _, _ => False) → Rep X.K G x a → Rep X.K G y b → wpAny (model X.prog X.w) X.A (compareOp .NotEq v u) (EP X pins σ Q) X.xe s := fun {x y} q rx ry => by
    cases hx : dat M x with
    | none => rw [hx] at q; exact q.elim
    | some d =>
      cases hy : dat M y with
      | none => rw [hx, hy] at q; exact q.elim
      | some e =>
        rw [hx, hy] at q
        exact op_neN hu pins s σ H a b v u Q I ra rb ⟨d, e, dat_dp w hx rx, dat_dp w hy ry, dat_plain hx, dat_plain hy, q.1, give L w (x := .bl _) rfl q.2⟩
  cases x <;> cases y <;> first
    | exact data q rx ry
    | (cases rx; cases ry; exact op_ne pins s σ H _ _ v u Q I ra rb ⟨rfl, give L w (x := .bl _) (show V.bl _ = V.bl _ by simp) q⟩)
theorem rep_non {K : PySem.W.Frag} {G : Hp} {x : PV} {v : V} (r : Rep K G x v) : decide (v = V.non) = (match x with
    | .non => true
    | _ => false) := by
  cases x with
  | non => cases r; rfl
  | tup xs => obtain ⟨a, vs, rfl, _⟩ := r; rfl
  | lst xs => obtain ⟨a, vs, rfl, _⟩ := r; rfl
  | scr xs => obtain ⟨a, rfl, _⟩ := r; rfl
  | obj C ns xs => obtain ⟨a, dx, vs, rfl, _⟩ := r; rfl
  | exc a d x => obtain ⟨rfl, _⟩ := r; rfl
  | _ => cases r; rfl
theorem oq_isN : OpQ X (compareOp .Is) (bIsN false) := by
  intro pins s σ H a b v u Q I ra rb ⟨x, y, M, G, Q0, rx, ry, w, q, L⟩
  cases y <;> first
    | exact q.elim
    | (refine op_isN pins s σ H a b v u Q I ra rb ⟨ry, ?_⟩
       rw [rep_non rx]
       cases x <;> exact give L w (x := .bl _) rfl q)
theorem oq_notN : OpQ X (compareOp .IsNot) (bIsN true) := by
  intro pins s σ H a b v u Q I ra rb ⟨x, y, M, G, Q0, rx, ry, w, q, L⟩
  cases y <;> first
    | exact q.elim
    | (refine op_notN pins s σ H a b v u Q I ra rb ⟨ry, ?_⟩
       rw [rep_non rx]
       cases x <;> exact give L w (x := .bl _) rfl q)
end

/-! ### tests, and, or, not, a if t else b -/
section
variable {X : Cx} {W : WX} {pos : Pos}
/-- a value that is a truth, as a test -/
def qTst (t : QT) : QB := fun env M Q E => t env M (fun x M1 => ∃ b, x = .bl b ∧ Q b M1) E
theorem tie_tst {t : QT} {σ : L2.St} {H : Hp} {Q : Bool → Hp → Prop} (h : tieB X.K W (qTst t) σ H Q) : tie X.K W t σ H fun x H1 => ∃ c, x = .bl c ∧ Q c H1 := by
  obtain ⟨env, M, G, Q0, E0, S, q, L, LE⟩ := h
  refine ⟨env, M, G, _, E0, S, q, fun x M1 v H1 G1 e1 w1 r1 q1 => ?_, LE⟩
  obtain ⟨b, rfl, q1⟩ := q1
  exact ⟨b, r1, L b M1 H1 G1 e1 w1 q1⟩
theorem qt_cmp {op : CmpOp} {a b : Expr} {ta tb : QT} {f : F2} (ho : OpQ X (compareOp op) f) (ha : QE X W a ta) (hb : QE X W b tb) (hm : behindInMarks op b = false := by first | exact nomark _ | rfl) : QPT X W (.Compare a [op] [b] pos) (qTst (q2 f ta tb)) :=
  (pt_cmpR ho ha hb hm).imp fun σ H Q h => tie2 (fun _ _ _ _ z => z) (tie_tst h)
theorem qt_val {e : Expr} {t : QT} (h : QE X W e t) (he : ∀ whole, isTrue e X.env whole = (do let v ← whole; standAt e.pos; holding [v] (truthy v)) := by intro _; rfl) : QPT X W e (qTst t) :=
  (pt_val h he).imp fun σ H Q h => tie_tst h
def qAnd (t u : QB) : QB := fun env M Q E => t env M (fun c M1 => if c = true then u env M1 Q E else Q false M1) E
def qOr (t u : QB) : QB := fun env M Q E => t env M (fun c M1 => if c = true then Q true M1 else u env M1 Q E) E
def qNot (t : QB) : QB := fun env M Q E => t env M (fun c M1 => Q (!c) M1) E
abbrev QPW (X : Cx) (W : WX) (e : Expr) (t : QB) : Prop := PW X e (tieB X.K W t)
theorem qw_one_and {a : Expr} {t : QB} (h : QPT X W a t) : QPW X W (.BoolOp .And [a] pos) t := pw_and1 h
theorem qw_one_or {a : Expr} {t : QB} (h : QPT X W a t) : QPW X W (.BoolOp .Or [a] pos) t := pw_or1 h
theorem qw_and {a b : Expr} {rest : List Expr} {t u : QB} (h : QPT X W a t) (k : QPW X W (.BoolOp .And (b :: rest) pos) u) : QPW X W (.BoolOp .And (a :: b :: rest) pos) (qAnd t u) :=
  (pw_and h k).imp fun σ H Q hh => by
    obtain ⟨env, M, G, Q0, E0, S, q, L, LE⟩ := hh
    refine ⟨env, M, G, _, E0, S, q, fun c M1 H1 G1 e1 w1 q1 => ?_, LE⟩
    cases c with
    | true => exact ⟨env, M1, G1, Q0, E0, S.to e1 w1, q1, L.mono e1, LE.mono e1⟩
    | false => exact L false M1 H1 G1 e1 w1 q1
theorem qw_or {a b : Expr} {rest : List Expr} {t u : QB} (h : QPT X W a t) (k : QPW X W (.BoolOp .Or (b :: rest) pos) u) : QPW X W (.BoolOp .Or (a :: b :: rest) pos) (qOr t u) :=
  (pw_or h k).imp fun σ H Q hh => by
    obtain ⟨env, M, G, Q0, E0, S, q, L, LE⟩ := hh
    refine ⟨env, M, G, _, E0, S, q, fun c M1 H1 G1 e1 w1 q1 => ?_, LE⟩
    cases c with
    | false => exact ⟨env, M1, G1, Q0, E0, S.to e1 w1, q1, L.mono e1, LE.mono e1⟩
    | true => exact L true M1 H1 G1 e1 w1 q1
theorem qt_w {e : Expr} {t : QB} (h : QPW X W e t) : QPT X W e t := PW.pt h
theorem qt_not {a : Expr} {t : QB} (h : QPT X W a t) : QPT X W (.UnaryOp .Not a pos) (qNot t) := (pt_not h).imp fun σ H Q hh => by
  obtain ⟨env, M, G, Q0, E0, S, q, L, LE⟩ := hh
  exact ⟨env, M, G, _, E0, S, q, fun c M1 H1 G1 e1 w1 q1 => L (!c) M1 H1 G1 e1 w1 q1, LE⟩
/-- as values -/
def qAndV (t u : QT) : QT := fun env M Q E => t env M (fun x M1 => ∃ c, x = .bl c ∧ if c = true then u env M1 Q E else Q (.bl false) M1) E
def qOrV (t u : QT) : QT := fun env M Q E => t env M (fun x M1 => ∃ c, x = .bl c ∧ if c = true then Q (.bl true) M1 else u env M1 Q E) E
def qNotV (t : QT) : QT := fun env M Q E => t env M (fun x M1 => ∃ c, x = .bl c ∧ Q (.bl (!c)) M1) E
def qIf (c : QB) (t u : QT) : QT := fun env M Q E => c env M (fun b M1 => if b = true then t env M1 Q E else u env M1 Q E) E
theorem qe_one {op} {a : Expr} {t : QT} (h : QE X W a t) : QE X W (.BoolOp op [a] pos) t := pe_one h
theorem qe_and {a b : Expr} {rest : List Expr} {t u : QT} (h : QE X W a t) (k : QE X W (.BoolOp .And (b :: rest) pos) u) : QE X W (.BoolOp .And (a :: b :: rest) pos) (qAndV t u) :=
  (pe_and h k).imp fun σ H Q hh => by
    obtain ⟨env, M, G, Q0, E0, S, q, L, LE⟩ := hh
    refine ⟨env, M, G, _, E0, S, q, fun x M1 v H1 G1 e1 w1 r1 q1 => ?_, LE⟩
    obtain ⟨c, rfl, q1⟩ := q1
    refine ⟨c, r1, ?_⟩
    cases c with
    | true => exact ⟨env, M1, G1, Q0, E0, S.to e1 w1, q1, L.mono e1, LE.mono e1⟩
    | false => exact L (.bl false) M1 _ H1 G1 e1 w1 rfl q1
theorem qe_or {a b : Expr} {rest : List Expr} {t u : QT} (h : QE X W a t) (k : QE X W (.BoolOp .Or (b :: rest) pos) u) : QE X W (.BoolOp .Or (a :: b :: rest) pos) (qOrV t u) :=
  (pe_or h k).imp fun σ H Q hh => by
    obtain ⟨env, M, G, Q0, E0, S, q, L, LE⟩ := hh
    refine ⟨env, M, G, _, E0, S, q, fun x M1 v H1 G1 e1 w1 r1 q1 => ?_, LE⟩
    obtain ⟨c, rfl, q1⟩ := q1
    refine ⟨c, r1, ?_⟩
    cases c with
    | false => exact ⟨env, M1, G1, Q0, E0, S.to e1 w1, q1, L.mono e1, LE.mono e1⟩
    | true => exact L (.bl true) M1 _ H1 G1 e1 w1 rfl q1
theorem qe_not {a : Expr} {t : QT} (h : QE X W a t) : QE X W (.UnaryOp .Not a pos) (qNotV t) := (pe_not h).imp fun σ H Q hh => by
  obtain ⟨env, M, G, Q0, E0, S, q, L, LE⟩ := hh
  refine ⟨env, M, G, _, E0, S, q, fun x M1 v H1 G1 e1 w1 r1 q1 => ?_, LE⟩
  obtain ⟨c, rfl, q1⟩ := q1
  exact ⟨c, r1, L (.bl (!c)) M1 _ H1 G1 e1 w1 rfl q1⟩
theorem qe_if {c a b : Expr} {tc : QB} {t u : QT} (hc : QPT X W c tc) (h : QE X W a t) (k : QE X W b u) : QE X W (.IfExp c a b pos) (qIf tc t u) := (pe_ifExp hc h k).imp fun σ H Q hh => by
  obtain ⟨env, M, G, Q0, E0, S, q, L, LE⟩ := hh
  refine ⟨env, M, G, _, E0, S, q, fun c M1 H1 G1 e1 w1 q1 => ?_, LE⟩
  cases c with
  | true => exact ⟨env, M1, G1, Q0, E0, S.to e1 w1, q1, L.mono e1, LE.mono e1⟩
  | false => exact ⟨env, M1, G1, Q0, E0, S.to e1 w1, q1, L.mono e1, LE.mono e1⟩
end
end TQ

namespace TQ
open PySem PySem.Spec PyProof.Rows L2
/-! ### arguments, displays -/
section
variable {X : Cx} {W : WX} {pos : Pos}
def qNil : QA := fun _ M Q _ => Q [] M
def qCons (t : QT) (r : QA) : QA := fun env M Q E => t env M (fun x M1 => r env M1 (fun xs M2 => Q (x :: xs) M2) E) E
theorem qa_nil : QPA X W [] qNil := pa_nil.imp fun σ H Q ⟨env, M, G, Q0, E0, S, q, L, LE⟩ => L [] M [] H G (Ext.refl G) S.wf Reps.nil q
theorem qa_cons {e : Expr} {es : List Expr} {t : QT} {r : QA} (h : QE X W e t) (k : QPA X W es r) (hs : starEach (e :: es) X.env = (false, eval e X.env) :: starEach es X.env := by rfl) : QPA X W (e :: es) (qCons t r) :=
  (pa_cons h k hs).imp fun σ H Q ⟨env, M, G, Q0, E0, S, q, L, LE⟩ => by
    refine ⟨env, M, G, _, E0, S, q, fun x M1 v H1 G1 e1 w1 r1 q1 => ?_, LE⟩
    refine ⟨env, M1, G1, _, E0, S.to e1 w1, q1, fun xs M2 vs H2 G2 e2 w2 r2 q2 => ?_, LE.mono e1⟩
    exact L (x :: xs) M2 (v :: vs) H2 G2 (e1.trans e2) w2 (Reps.cons (Rep.mono e2 x v r1) r2) q2
def qTup (t : QA) : QT := fun env M Q E => t env M (fun xs M1 => xs.length ≤ sizeLine ∧ Q (.tup xs) M1) E
def qLst (t : QA) : QT := fun env M Q E => t env M (fun xs M1 => xs.length ≤ sizeLine ∧ Q (.lst xs) M1) E
/-- a list that will be written -/
def qLstM (t : QA) : QT := fun env M Q E => t env M (fun xs M1 => xs.length ≤ sizeLine ∧ ∀ p, M1 p = none → Q (.ref p) (mset M1 p (.lst xs))) E
theorem qe_tup {es : List Expr} {t : QA} {j} (h : QPA X W es t) : QE X W (.Tuple es j pos) (qTup t) := (pe_tup h).imp fun σ H Q ⟨env, M, G, Q0, E0, S, q, L, LE⟩ => by
  refine ⟨env, M, G, _, E0, S, q, fun xs M1 vs H1 G1 e1 w1 r1 q1 => ?_, LE⟩
  exact ⟨by rw [← r1.length]; exact q1.1, fun p hp => give_tup (L.mono e1) w1 hp r1 q1.2⟩
theorem qe_lst {es : List Expr} {t : QA} (h : QPA X W es t) : QE X W (.List es pos) (qLst t) := (pe_lst h).imp fun σ H Q ⟨env, M, G, Q0, E0, S, q, L, LE⟩ => by
  refine ⟨env, M, G, _, E0, S, q, fun xs M1 vs H1 G1 e1 w1 r1 q1 => ?_, LE⟩
  exact ⟨by rw [← r1.length]; exact q1.1, fun p hp => give_lst (L.mono e1) w1 hp r1 q1.2⟩
theorem give_ref {K : PySem.W.Frag} {G H : Hp} {M : Mem} {Q0 : PK} {Q : VK} {p : Addr} {o : HO} {m : MO} (L : LiftV K G Q0 Q) (w : Wf K M H G) (hg : G p = none) (r : MOk K G (upd H p o) p m) (q : Q0 (.ref p) (mset M p m)) (hf : NFix H p := by first | exact Or.inl (by assumption) | (refine Or.inr ⟨_, by assumption, ?_⟩; exact fun z => z)) : Q (.ref p) (upd H p o) :=
  L (.ref p) _ _ _ G (Ext.refl G) (w.put hg r hf) rfl q
theorem qe_lstM {es : List Expr} {t : QA} (h : QPA X W es t) : QE X W (.List es pos) (qLstM t) := (pe_lst h).imp fun σ H Q ⟨env, M, G, Q0, E0, S, q, L, LE⟩ => by
  refine ⟨env, M, G, _, E0, S, q, fun xs M1 vs H1 G1 e1 w1 r1 q1 => ?_, LE⟩
  exact ⟨by rw [← r1.length]; exact q1.1, fun p hp => give_ref (L.mono e1) w1 (w1.free hp) (mok_lst r1) (q1.2 p (w1.freeM hp))⟩
end

/-! ### items, slices -/
def bIx : F2 := fun x y M Q => match y with
  | .int i => (match x with
    | .tup xs => ∃ v, atI xs i = some v ∧ Q v M
    | .str z => z.length ≤ sizeLine ∧ ∃ c, atI z.cps.toList i = some c ∧ Q (.str ⟨#[c]⟩) M
    | x => match sqA M x with
      | some xs => ∃ v, atI xs i = some v ∧ Q v M
      | none => False)
  | _ => False
theorem atI_rep {K : PySem.W.Frag} {G : Hp} {xs : List PV} {vs : List V} {i : Int} {x : PV} (r : Reps K G xs vs) (h : atI xs i = some x) : ∃ v, atI vs i = some v ∧ Rep K G x v := by
  unfold atI at h ⊢
  rw [← r.length]
  cases hi : ixN xs.length i with
  | none => rw [hi] at h; cases h
  | some j =>
    rw [hi] at h
    exact r.get (show xs[j]? = some x from h)
def bSl (lo hi : Option Int) (x : PV) (M : Mem) (Q : PK) : Prop := match x with
  | .str z => z.length ≤ sizeLine ∧ Q (.str (cutS z lo hi)) M
  | .tup xs => ¬ (HT.sIx xs.length 0 lo = 0 ∧ HT.sIx xs.length xs.length hi = xs.length) ∧ Q (.tup ((xs.drop (HT.sIx xs.length 0 lo)).take (HT.sIx xs.length xs.length hi - HT.sIx xs.length 0 lo))) M
  | x => match sqA M x with
    | some xs => Q (.lst ((xs.drop (HT.sIx xs.length 0 lo)).take (HT.sIx xs.length xs.length hi - HT.sIx xs.length 0 lo))) M
    | none => False
section
variable {X : Cx} {W : WX} {pos : Pos}
theorem ixq : IxR X (fun a b H Q => ∃ x y M G Q0, Rep X.K G x a ∧ Rep X.K G y b ∧ Wf X.K M H G ∧ bIx x y M Q0 ∧ LiftV X.K G Q0 Q) := by
  intro value slice pins s σ H a b v u Q I ra rb ⟨x, y, M, G, Q0, rx, ry, w, q, L⟩ hs
  have sq1 : ∀ {x : PV} {i : Int}, (match sqA M x with
      | some xs => ∃ v, atI xs i = some v ∧ Q0 v M
      | none => False) → Rep X.K G x a → Rep X.K G (.int i) b → wpAny (model X.prog X.w) X.A (subscriptTail value slice v u) (EP X pins σ Q) X.xe s := fun {x i} q rx ry => by
    cases hx : sqA M x with
    | none => rw [hx] at q; exact q.elim
    | some xs =>
      rw [hx] at q
      obtain ⟨z, hz, q⟩ := q
      obtain ⟨p, vs, e1, h1, r1⟩ := sqA_H hx rx w
      obtain ⟨zv, h2, r2⟩ := atI_rep r1 hz
      exact ix_list value slice pins s σ H a b v u Q I ra rb ⟨p, vs, i, zv, e1, ry, h1, h2, give L w r2 q⟩ hs
  cases y with
  | int i =>
    cases x with
    | tup xs =>
      obtain ⟨z, hz, q⟩ := q
      obtain ⟨p, vs, e1, h1, r1⟩ := rx
      obtain ⟨zv, h2, r2⟩ := atI_rep r1 hz
      exact ix_tup value slice pins s σ H a b v u Q I ra rb ⟨p, vs, i, zv, e1, ry, ext_t w.sub h1, h2, give L w r2 q⟩ hs
    | str z =>
      obtain ⟨hz, c, hc, q⟩ := q
      exact ix_str value slice pins s σ H a b v u Q I ra rb ⟨z, i, c, rx, ry, hz, hc, give L w (x := .str _) rfl q⟩ hs
    | _ => exact sq1 q rx ry
  | _ => exact q.elim
theorem qe_ix {a b : Expr} {ta tb : QT} (ha : QE X W a ta) (hb : QE X W b tb) (hp : PlainIx b := by exact fun _ _ => rfl) : QE X W (.Subscript a b pos) (q2 bIx ta tb) :=
  (pe_ix ixq ha hb hp).imp fun σ H Q h => tie2 (fun _ _ _ _ z => z) h
abbrev QO := Sl → Mem → (Option Int → Mem → Prop) → EK → Prop
def qoNone : QO := fun _ M Q _ => Q none M
def qoSome (t : QT) : QO := fun env M Q E => t env M (fun x M1 => ∃ i, x = .int i ∧ Q (some i) M1) E
def tieO (K : PySem.W.Frag) (W : WX) (t : QO) : TO := fun σ H Q => ∃ env M G Q0 E0, Sim K env M G σ H ∧ t env M Q0 E0 ∧ (∀ o M' H' G', Ext G G' → Wf K M' H' G' → Q0 o M' → Q o H') ∧ LiftE K G E0 (WE W σ)
abbrev QPO (X : Cx) (W : WX) (e : Option Expr) (t : QO) : Prop := PO X e (tieO X.K W t)
theorem _root_.L2.PO.imp {e : Option Expr} {t t' : TO} (h : PO X e t) (f : ∀ σ H Q, t' σ H Q → t σ H Q) : PO X e t' := ⟨fun pins s σ H Q I q => h.run pins s σ H Q I (f σ H Q q)⟩
theorem qo_none : QPO X W none qoNone := po_none.imp fun σ H Q ⟨env, M, G, Q0, E0, S, q, L, LE⟩ => L none M H G (Ext.refl G) S.wf q
theorem qo_some {e : Expr} {t : QT} (h : QE X W e t) : QPO X W (some e) (qoSome t) := (po_some h).imp fun σ H Q ⟨env, M, G, Q0, E0, S, q, L, LE⟩ => by
  refine ⟨env, M, G, _, E0, S, q, fun x M1 v H1 G1 e1 w1 r1 q1 => ?_, LE⟩
  obtain ⟨i, rfl, q1⟩ := q1
  exact ⟨i, r1, L (some i) M1 H1 G1 e1 w1 q1⟩
def qSl (t : QT) (lo hi : QO) : QT := fun env M Q E => t env M (fun x M1 => lo env M1 (fun l M2 => hi env M2 (fun u M3 => bSl l u x M3 Q) E) E) E
def rSlQ (K : PySem.W.Frag) : V → Option Int → Option Int → Hp → VK → Prop := fun a lo hi H Q => ∃ x M G Q0, Rep K G x a ∧ Wf K M H G ∧ bSl lo hi x M Q0 ∧ LiftV K G Q0 Q
theorem cut_rep {K : PySem.W.Frag} {G : Hp} {xs : List PV} {vs : List V} (lo hi : Option Int) (r : Reps K G xs vs) :
    Reps K G ((xs.drop (HT.sIx xs.length 0 lo)).take (HT.sIx xs.length xs.length hi - HT.sIx xs.length 0 lo)) (cutV vs lo hi) := by
  unfold cutV
  rw [r.length]
  exact (r.drop _).take _
theorem slq : SlR X (rSlQ X.K) := by
  intro pins s σ H a v vl vu lo hi sl Q I ra hs pl pu ⟨x, M, G, Q0, rx, w, q, L⟩
  have sq1 : ∀ {x : PV}, (match sqA M x with
      | some xs => Q0 (.lst ((xs.drop (HT.sIx xs.length 0 lo)).take (HT.sIx xs.length xs.length hi - HT.sIx xs.length 0 lo))) M
      | none => False) → Rep X.K G x a → ∃ T id, typeLookup (.type T) "__getitem__" = pure (some (.builtin id)) ∧ s.TypeIs v T ∧ wpAny (model X.prog X.w) X.A (getItem v (.ref sl)) (EP X pins σ Q) X.xe s := fun {x} q rx => by
    cases hx : sqA M x with
    | none => rw [hx] at q; exact q.elim
    | some xs =>
      rw [hx] at q
      obtain ⟨p, vs, e1, h1, r1⟩ := sqA_H hx rx w
      exact sl_list pins s σ H a v vl vu lo hi sl Q I ra hs pl pu ⟨p, vs, e1, h1, fun p hp => give_lst L w hp (cut_rep lo hi r1) q⟩
  cases x with
  | str z => exact sl_str pins s σ H a v vl vu lo hi sl Q I ra hs pl pu ⟨z, rx, q.1, give L w (x := .str _) rfl q.2⟩
  | tup xs =>
    obtain ⟨p, vs, e1, h1, r1⟩ := rx
    exact sl_tup pins s σ H a v vl vu lo hi sl Q I ra hs pl pu ⟨p, vs, e1, ext_t w.sub h1, by rw [← r1.length]; exact q.1, fun p hp => give_tup L w hp (cut_rep lo hi r1) q.2⟩
  | _ => exact sq1 q rx
theorem qe_slice {e : Expr} {lo hi : Option Expr} {t : QT} {tl th : QO} {p2 : Pos} (he : QE X W e t) (hl : QPO X W lo tl) (hu : QPO X W hi th) : QE X W (.Subscript e (.Slice lo hi none p2) pos) (qSl t tl th) :=
  (pe_slice slq he hl hu).imp fun σ H Q ⟨env, M, G, Q0, E0, S, q, L, LE⟩ => by
    refine ⟨env, M, G, _, E0, S, q, fun x M1 v H1 G1 e1 w1 r1 q1 => ?_, LE⟩
    refine ⟨env, M1, G1, _, E0, S.to e1 w1, q1, fun l M2 H2 G2 e2 w2 q2 => ?_, LE.mono e1⟩
    refine ⟨env, M2, G2, _, E0, S.to (e1.trans e2) w2, q2, fun u M3 H3 G3 e3 w3 q3 => ?_, LE.mono (e1.trans e2)⟩
    exact ⟨x, M3, G3, Q0, Rep.mono (e2.trans e3) x v r1, w3, q3, L.mono ((e1.trans e2).trans e3)⟩
end

/-! ### built-ins by name -/
abbrev FC := List PV → Mem → PK → Prop
def CallQ (X : Cx) (f : Value) (r : FC) : Prop := CallR X f fun vs H Q => ∃ xs M G Q0, Reps X.K G xs vs ∧ Wf X.K M H G ∧ r xs M Q0 ∧ LiftV X.K G Q0 Q
def qCB (r : FC) (t : QA) : QT := fun env M Q E => t env M (fun xs M1 => r xs M1 Q) E
section
variable {X : Cx} {W : WX} {pos : Pos}
theorem tieCB {r : FC} {t : QA} {σ : L2.St} {H : Hp} {Q : VK} (h : tie X.K W (qCB r t) σ H Q) : tCB (fun vs H Q => ∃ xs M G Q0, Reps X.K G xs vs ∧ Wf X.K M H G ∧ r xs M Q0 ∧ LiftV X.K G Q0 Q) (tieA X.K W t) σ H Q := by
  obtain ⟨env, M, G, Q0, E0, S, q, L, LE⟩ := h
  exact ⟨env, M, G, _, E0, S, q, fun xs M1 vs H1 G1 e1 w1 r1 q1 => ⟨xs, M1, G1, Q0, r1, w1, q1, L.mono e1⟩, LE⟩
theorem qe_callB {id : String} {x : Str} {p : Pos} {e : Expr} {es : List Expr} {r : FC} {t : QA} (hc : CallQ X (.builtin id) r) (hm : X.mg x = none) (ha : QPA X W (e :: es) t) (hg : Gl X x := by rfl) (hv : bootBuiltins x = some (.builtin id) := by decide +kernel) (hn : x ≠ "__name__" := by decide) (hdb : (x == ("__debug__" : Str)) = false := by decide)
    (he : starEach (e :: es) X.env = (false, eval e X.env) :: starEach es X.env := by rfl) (hpl : (backTo pos (starEach es X.env)).any (·.1) = false := by rfl) : QE X W (.Call (.Name x p) (e :: es) [] pos) (qCB r t) :=
  (pe_callB hc hg hm hv ha hn hdb he hpl).imp fun σ H Q h => tieCB h
theorem qe_callT {T : String} {x : Str} {p : Pos} {e : Expr} {es : List Expr} {r : FC} {t : QA} (hc : CallQ X (.type T) r) (hm : X.mg x = none) (ha : QPA X W (e :: es) t) (hg : Gl X x := by rfl) (hv : bootBuiltins x = some (.type T) := by decide +kernel) (hn : x ≠ "__name__" := by decide) (hdb : (x == ("__debug__" : Str)) = false := by decide)
    (he : starEach (e :: es) X.env = (false, eval e X.env) :: starEach es X.env := by rfl) (hpl : (backTo pos (starEach es X.env)).any (·.1) = false := by rfl) : QE X W (.Call (.Name x p) (e :: es) [] pos) (qCB r t) :=
  (pe_callTy hc hg hm hv ha hn hdb he hpl).imp fun σ H Q h => tieCB h
theorem reps1 {K : PySem.W.Frag} {G : Hp} {x : PV} {vs : List V} (r : Reps K G [x] vs) : ∃ v, vs = [v] ∧ Rep K G x v := by
  obtain ⟨v, ws, rfl, h, h2⟩ := r
  cases h2
  exact ⟨v, rfl, h⟩
theorem reps2 {K : PySem.W.Frag} {G : Hp} {x y : PV} {vs : List V} (r : Reps K G [x, y] vs) : ∃ v u, vs = [v, u] ∧ Rep K G x v ∧ Rep K G y u := by
  obtain ⟨v, ws, rfl, h, h2⟩ := r
  obtain ⟨u, rfl, h3⟩ := reps1 h2
  exact ⟨v, u, rfl, h, h3⟩
def len1 (x : PV) (M : Mem) (Q : PK) : Prop := match x with
  | .str z => z.length ≤ sizeLine ∧ Q (.int z.length) M
  | .tup ys => Q (.int ys.length) M
  | x => match sqA M x with
    | some ys => Q (.int ys.length) M
    | none => False
def cLen : FC := fun xs M Q => match xs with
  | [x] => len1 x M Q
  | _ => False
theorem cq_len : CallQ X (.builtin "len") cLen := by
  intro pins s σ H vs us Q I r ⟨xs, M, G, Q0, rx, w, q, L⟩
  unfold cLen at q
  split at q
  · rename_i x
    obtain ⟨v, rfl, rz⟩ := reps1 rx
    clear rx
    have sq1 : ∀ {x : PV}, (match sqA M x with
        | some ys => Q0 (.int ys.length) M
        | none => False) → Rep X.K G x v → wpAny (model X.prog X.w) X.A (call (.builtin "len") us) (EP X pins σ Q) X.xe s := fun {x} q rx => by
      cases hx : sqA M x with
      | none => rw [hx] at q; exact q.elim
      | some ys =>
        rw [hx] at q
        obtain ⟨p, ws, rfl, h1, r1⟩ := sqA_H hx rx w
        exact call_len pins s σ H _ us Q I r ⟨_, ws.length, rfl, .inl ⟨ws, h1, rfl⟩, give L w (x := .int ws.length) rfl (by rw [← r1.length]; exact q)⟩
    unfold len1 at q
    split at q
    · cases rz
      exact call_len pins s σ H _ us Q I r ⟨.str _, _, rfl, ⟨q.1, rfl⟩, give L w (x := .int _) rfl q.2⟩
    · obtain ⟨p, ws, rfl, h1, r1⟩ := rz
      exact call_len pins s σ H _ us Q I r ⟨_, ws.length, rfl, .inr ⟨ws, ext_t w.sub h1, rfl⟩, give L w (x := .int ws.length) rfl (by rw [← r1.length]; exact q)⟩
    · exact sq1 q rz
  · exact q.elim
def cMax : FC := fun xs M Q => match xs with
  | [.int i, .int j] => Q (.int (max i j)) M
  | _ => False
def cMin : FC := fun xs M Q => match xs with
  | [.int i, .int j] => Q (.int (min i j)) M
  | _ => False
def cAbs : FC := fun xs M Q => match xs with
  | [.int i] => Q (.int i.natAbs) M
  | _ => False
def cInt : FC := fun xs M Q => match xs with
  | [.int i] => Q (.int i) M
  | [.bl b] => Q (.int (if b then 1 else 0)) M
  | [.str a] => ∃ n, PySem.intText? a = some n ∧ a.length ≤ 640 ∧ Q (.int n) M
  | _ => False
def cStr : FC := fun xs M Q => match xs with
  | [.int i] => i.natAbs.log2 < 1920 ∧ Q (.str (toString i)) M
  | _ => False
def cDivmod : FC := fun xs M Q => match xs with
  | [.int i, .int j] => CDivP i j ∧ Q (.tup [.int (i / j), .int (i % j)]) M
  | _ => False
theorem cq_max (hc : X.calm = true) : CallQ X (.builtin "max") cMax := by
  intro pins s σ H vs us Q I r ⟨xs, M, G, Q0, rx, w, q, L⟩
  unfold cMax at q
  split at q
  · obtain ⟨v, u, rfl, r1, r2⟩ := reps2 rx
    cases r1; cases r2
    exact call_max2 hc pins s σ H _ us Q I r ⟨_, _, rfl, give L w (x := .int _) (by show V.int _ = V.int _; congr 1; omega) q⟩
  · exact q.elim
theorem cq_min (hc : X.calm = true) : CallQ X (.builtin "min") cMin := by
  intro pins s σ H vs us Q I r ⟨xs, M, G, Q0, rx, w, q, L⟩
  unfold cMin at q
  split at q
  · obtain ⟨v, u, rfl, r1, r2⟩ := reps2 rx
    cases r1; cases r2
    exact call_min2 hc pins s σ H _ us Q I r ⟨_, _, rfl, give L w (x := .int _) (by show V.int _ = V.int _; congr 1; omega) q⟩
  · exact q.elim
theorem cq_abs : CallQ X (.builtin "abs") cAbs := by
  intro pins s σ H vs us Q I r ⟨xs, M, G, Q0, rx, w, q, L⟩
  unfold cAbs at q
  split at q
  · obtain ⟨v, rfl, r1⟩ := reps1 rx
    cases r1
    exact call_abs pins s σ H _ us Q I r ⟨_, rfl, give L w (x := .int _) (by show V.int _ = V.int _; congr 1; omega) q⟩
  · exact q.elim
theorem cq_int : CallQ X (.type "int") cInt := by
  intro pins s σ H vs us Q I r ⟨xs, M, G, Q0, rx, w, q, L⟩
  unfold cInt at q
  split at q
  · obtain ⟨v, rfl, r1⟩ := reps1 rx
    cases r1
    exact call_int1 pins s σ H _ us Q I r (.inl ⟨_, rfl, give L w (x := .int _) rfl q⟩)
  · obtain ⟨v, rfl, r1⟩ := reps1 rx
    cases r1
    exact call_int1 pins s σ H _ us Q I r (.inr ⟨_, rfl, give L w (x := .int _) rfl q⟩)
  · obtain ⟨v, rfl, r1⟩ := reps1 rx
    cases r1
    obtain ⟨n, h1, h2, q⟩ := q
    exact call_int_str pins s σ H _ us Q I r ⟨_, n, rfl, h1, h2, give L w (x := .int _) rfl q⟩
  · exact q.elim
theorem cq_str : CallQ X (.type "str") cStr := by
  intro pins s σ H vs us Q I r ⟨xs, M, G, Q0, rx, w, q, L⟩
  unfold cStr at q
  split at q
  · obtain ⟨v, rfl, r1⟩ := reps1 rx
    cases r1
    exact call_str_int pins s σ H _ us Q I r ⟨_, rfl, q.1, give L w (x := .str _) rfl q.2⟩
  · exact q.elim
theorem cq_divmod : CallQ X (.builtin "divmod") cDivmod := by
  intro pins s σ H vs us Q I r ⟨xs, M, G, Q0, rx, w, q, L⟩
  unfold cDivmod at q
  split at q
  · obtain ⟨v, u, rfl, r1, r2⟩ := reps2 rx
    cases r1; cases r2
    exact call_divmodW pins s σ H _ us Q I r ⟨_, _, rfl, q.1, fun p hp => give_tup L w hp (Reps.cons (x := .int _) rfl (Reps.one (x := .int _) rfl)) q.2⟩
  · exact q.elim
/-- truths -/
def bls : List PV → Option (List Bool)
  | [] => some []
  | .bl b :: xs => (bls xs).map fun bs => b :: bs
  | _ :: _ => none
theorem bls_rep {K : PySem.W.Frag} {G : Hp} : ∀ {xs : List PV} {vs : List V} {bs : List Bool}, bls xs = some bs → Reps K G xs vs → vs = bs.map V.bl
  | [], _, _, h, r => by cases h; cases r; rfl
  | x :: xs, _, bs, h, r => by
    obtain ⟨v, ws, rfl, h2, h3⟩ := r
    cases x with
    | bl b =>
      replace h : (bls xs).map (fun bs => b :: bs) = some bs := h
      cases hb : bls xs with
      | none => rw [hb] at h; cases h
      | some cs =>
        rw [hb] at h
        cases h
        cases h2
        rw [bls_rep hb h3]
        rfl
    | _ => cases h
def cAll : FC := fun xs M Q => match xs with
  | [x] => (match sq M x with
    | some ys => ∃ bs, bls ys = some bs ∧ Q (.bl (bs.all id)) M
    | none => False)
  | _ => False
def cAny : FC := fun xs M Q => match xs with
  | [x] => (match sq M x with
    | some ys => ∃ bs, bls ys = some bs ∧ Q (.bl (bs.any id)) M
    | none => False)
  | _ => False
theorem cq_all (hc : X.calm = true) : CallQ X (.builtin "all") cAll := by
  intro pins s σ H vs us Q I r ⟨xs, M, G, Q0, rx, w, q, L⟩
  unfold cAll at q
  split at q
  · obtain ⟨v, rfl, r1⟩ := reps1 rx
    rename_i x
    cases hx : sq M x with
    | none => rw [hx] at q; exact q.elim
    | some ys =>
      rw [hx] at q
      obtain ⟨bs, hb, q⟩ := q
      obtain ⟨p, ws, rfl, h1, r1⟩ := sq_H hx r1 w
      have e := bls_rep hb r1
      subst e
      exact cr_all hc pins s σ H _ us Q I r ⟨_, bs, rfl, SqL.of h1, give L w (x := .bl _) rfl q⟩
  · exact q.elim
theorem cq_any (hc : X.calm = true) : CallQ X (.builtin "any") cAny := by
  intro pins s σ H vs us Q I r ⟨xs, M, G, Q0, rx, w, q, L⟩
  unfold cAny at q
  split at q
  · obtain ⟨v, rfl, r1⟩ := reps1 rx
    rename_i x
    cases hx : sq M x with
    | none => rw [hx] at q; exact q.elim
    | some ys =>
      rw [hx] at q
      obtain ⟨bs, hb, q⟩ := q
      obtain ⟨p, ws, rfl, h1, r1⟩ := sq_H hx r1 w
      have e := bls_rep hb r1
      subst e
      exact cr_any hc pins s σ H _ us Q I r ⟨_, bs, rfl, SqL.of h1, give L w (x := .bl _) rfl q⟩
  · exact q.elim
def qBits (t : QT) : QT := fun env M Q E => t env M (fun x M1 => ∃ i, x = .int i ∧ Q (.int (Builtin.Int.intBits i : Nat)) M1) E
theorem qe_bits {o : Expr} {t : QT} {apos : Pos} (ho : QE X W o t) (hbase : attributeBase o "bit_length" X.env (eval o X.env) = eval o X.env := by rfl) (hline : (apos.endLine == pos.line) = true := by rfl) : QE X W (.Call (.Attribute o "bit_length" apos) [] [] pos) (qBits t) :=
  (pe_bits ho hbase hline).imp fun σ H Q ⟨env, M, G, Q0, E0, S, q, L, LE⟩ => by
    refine ⟨env, M, G, _, E0, S, q, fun x M1 v H1 G1 e1 w1 r1 q1 => ?_, LE⟩
    obtain ⟨i, rfl, q1⟩ := q1
    exact ⟨i, r1, give (L.mono e1) w1 (x := .int _) rfl q1⟩
def qNeg (t : QT) : QT := fun env M Q E => t env M (fun x M1 => ∃ i, x = .int i ∧ Q (.int (-i)) M1) E
theorem qe_neg {a : Expr} {t : QT} (h : QE X W a t) : QE X W (.UnaryOp .USub a pos) (qNeg t) := (pe_un un_neg h).imp fun σ H Q ⟨env, M, G, Q0, E0, S, q, L, LE⟩ => by
  refine ⟨env, M, G, _, E0, S, q, fun x M1 v H1 G1 e1 w1 r1 q1 => ?_, LE⟩
  obtain ⟨i, rfl, q1⟩ := q1
  exact ⟨i, r1, give (L.mono e1) w1 (x := .int _) rfl q1⟩
end
end TQ

namespace TQ
open PySem PySem.Spec PyProof.Rows L2
/-! ### promises -/
abbrev SpQ := List PV → Mem → PK → EK → Prop
def spQ (K : PySem.W.Frag) (s : SpQ) : Sp := fun vs H Q E => ∃ xs M G Q0 E0, Reps K G xs vs ∧ Wf K M H G ∧ s xs M Q0 E0 ∧ LiftV K G Q0 Q ∧ LiftE K G E0 E
abbrev FnQ (P : Program) (w : World) (K : PySem.W.Frag) (mg : Str → Option Value) (base : Heap) (k : Nat) (f : Addr) (fd : FuncData) (ps : List Str) (s : SpQ) : Prop := FnOk P w K mg base (L2.CX P w) k f fd ps (spQ K s)
def startQ (N : List Str) (xs : List PV) : Sl := xs.map some ++ List.replicate (N.length - xs.length) none
theorem start_env {K : PySem.W.Frag} {G : Hp} {N : List Str} {xs : List PV} {vs : List V} (r : Reps K G xs vs) : EnvR K G (startQ N xs) (L2.start N vs) := by
  unfold startQ L2.start
  refine ⟨by simp [r.length], fun i x e => ?_⟩
  by_cases hi : i < xs.length
  · rw [List.getElem?_append_left (by simpa using hi), List.getElem?_map] at e
    cases hx : xs[i]? with
    | none => rw [hx] at e; cases e
    | some y =>
      rw [hx] at e
      cases e
      obtain ⟨v, h1, h2⟩ := r.get hx
      refine ⟨v, ?_, h2⟩
      rw [List.getElem?_append_left (by simpa [← r.length] using hi), List.getElem?_map, h1]
      rfl
  · rw [List.getElem?_append_right (by simpa using hi)] at e
    rw [List.getElem?_replicate] at e
    split at e
    · cases e
    · cases e
section
variable {P : Program} {w : World} {K : PySem.W.Frag} {mg : Str → Option Value} {base : Heap}
theorem okQ {x qual : Str} {st : Stmt} {f : Addr} {fd : FuncData} {N ps : List Str} {k : Nat} {s : SpQ} (F : Fun K x qual st f fd) (S : FnScope N ps (defScope st)) (len : ∀ xs M Q E, s xs M Q E → xs.length = ps.length)
    (hbody : ∀ (cdv : Value) (A : Around) (outer : List Env) (s0 : Shared) (H0 : Hp) (E : XK), Room k (A.deeper (envOfC qual (defScope st) s0.heap.objs.size f cdv)) →
      ∃ t, QPSs (cxOf (L2.CX P w) P w K mg base N qual (defScope st) f cdv A outer s0 H0 E) (fun cls d _ H => E cls d H) (defBody st) t ∧
        ∀ xs M Q0 E0, s xs M Q0 E0 → t { nx := fun _ M => Q0 .non M, rt := Q0, ex := fun c pl _ M => E0 c pl M } (startQ N xs) M) : FnQ P w K mg base (k + 1) f fd ps s := by
  refine F.okX S (fun vs H Q E h => ?_) (fun cdv A outer s0 H vs Q E hr h => ?_)
  · obtain ⟨xs, M, G, Q0, E0, r, _, q, _⟩ := h
    rw [← r.length]
    exact len xs M Q0 E0 q
  · obtain ⟨xs, M, G, Q0, E0, r, w, q, L, LE⟩ := h
    obtain ⟨t, h1, h2⟩ := hbody cdv A outer s0 H E hr
    refine ⟨_, h1, startQ N xs, M, G, _, ⟨start_env r, w⟩, h2 xs M Q0 E0 q, ?_⟩
    exact ⟨fun env' M' σ' H' G' e S q => L .non M' .non H' G' e S.wf rfl q, L, fun _ _ _ _ _ _ _ q => q, fun _ _ _ _ _ _ _ q => q, fun c pl env' M' d σ' H' G' e S x q => LE c pl M' d H' G' e S.wf x q⟩
end

/-! ### calls of defs -/
def qCall (s : SpQ) (t : QA) : QT := fun env M Q E => t env M (fun xs M1 => s xs M1 Q E) E
section
variable {X : Cx} {W : WX} {pos : Pos} {k : Nat} {f C : Addr} {fd : FuncData} {ps : List Str} {sp : Sp} {s : SpQ} {x m : Str} {p apos : Pos} {e o : Expr} {es : List Expr}
/-- the callee runs, what it raises goes where W says -/
theorem run_q {dvs : List V} {ds : List Value} {pins : List (Addr × Obj)} {σ : L2.St} {H : Hp} {sh : Shared} {Q : VK} {us : List Value} {vs : List V} (F : FnOk X.prog X.w X.K X.mg X.base (L2.CX X.prog X.w) k f fd ps sp) (hr : Room k X.A)
    (hb : Binds X.K fd ps ds) (hd : Vals dvs ds) (tk : Takes X W) (I : Inv X pins σ H sh) (r : Vals vs us) (h : sp (vs ++ dvs) H Q (WE W σ)) : wpAny (model X.prog X.w) X.A (call (.ref f) us) (EP X pins σ Q) X.xe sh := by
  have r2 := r.append hd
  have hl : (us ++ ds).length = ps.length := r2.length ▸ F.len _ _ _ _ h
  refine wpAny_call (codeAny_mono (F.run _ _ _ _ ⟨us, []⟩ _ _ _ _ hr I.env0 (hb sh us I.kIn hl) r2 h) fun r s' hq => ?_)
  match r, hq with
  | .error e, hq => exact passAt tk σ pins H sh e s' I hq
  | .ok (.ret u), hq => exact I.after hq
  | .ok .next, hq => exact hq.elim
  | .ok .brk, hq => exact hq.elim
  | .ok .cont, hq => exact hq.elim
theorem qe_call {t : QA} (F : FnQ X.prog X.w X.K X.mg X.base k f fd ps s) (hr : Room k X.A) (hm : X.mg x = some (.ref f)) (hk : PySem.W.keepIn X.K (.ref f) = true) (hb : Binds X.K fd ps []) (tk : Takes X W) (ha : QPA X W (e :: es) t) (hg : Gl X x := by rfl)
    (hdb : (x == ("__debug__" : Str)) = false := by decide) (he : starEach (e :: es) X.env = (false, eval e X.env) :: starEach es X.env := by rfl) (hpl : (backTo pos (starEach es X.env)).any (·.1) = false := by rfl) :
    QE X W (.Call (.Name x p) (e :: es) [] pos) (qCall s t) :=
  (pe_callS F hr hg hm hk hb (fun σ => passAt tk σ) ha hdb he hpl).imp fun σ H Q ⟨env, M, G, Q0, E0, S, q, L, LE⟩ =>
    ⟨env, M, G, _, E0, S, q, fun xs M1 vs H1 G1 e1 w1 r1 q1 => ⟨xs, M1, G1, Q0, E0, r1, w1, q1, L.mono e1, LE.mono e1⟩, LE⟩
theorem qe_call0 (F : FnQ X.prog X.w X.K X.mg X.base k f fd ps s) (hr : Room k X.A) (hm : X.mg x = some (.ref f)) (hk : PySem.W.keepIn X.K (.ref f) = true) (hb : Binds X.K fd ps []) (tk : Takes X W) (hg : Gl X x := by rfl)
    (hdb : (x == ("__debug__" : Str)) = false := by decide) : QE X W (.Call (.Name x p) [] [] pos) (qCall s qNil) := by
  refine ⟨fun pins sh σ H Q I ⟨env, M, G, Q0, E0, S, q, L, LE⟩ => wpAny_Call_Name_kw (ld_glob I hg hm (PySem.W.callWith_K0 I.kIn hk ?_) hdb)⟩
  exact run_q (us := []) (vs := []) (ds := []) (dvs := []) F hr hb .nil tk I .nil ⟨[], M, G, Q0, E0, Reps.nil, S.wf, q, L, LE⟩

/-! ### fields, methods -/
/-- what an instance holds -/
def own (M : Mem) : PV → Option (Addr × List Str × List PV)
  | .obj C ns vs => some (C, ns, vs)
  | .ref a => match M a with
    | some (.ins C ns vs) => some (C, ns, vs)
    | _ => none
  | _ => none
/-- the value of a name -/
def lk (f : Str) : List Str → List PV → Option PV
  | n :: ns, x :: xs => if f = n then some x else lk f ns xs
  | _, _ => none
theorem lk_rep {K : PySem.W.Frag} {G : Hp} {f : Str} : ∀ {ns : List Str} {xs : List PV} {vs : List V} {x : PV}, lk f ns xs = some x → Reps K G xs vs → ∃ v, (ns.zip vs).lookup f = some v ∧ Rep K G x v
  | [], _, _, _, h, _ => by cases h
  | _ :: _, [], _, _, h, _ => by cases h
  | n :: ns, x :: xs, _, y, h, r => by
    obtain ⟨v, ws, rfl, h2, h3⟩ := r
    unfold lk at h
    rw [List.zip_cons_cons, List.lookup_cons]
    by_cases e : f = n
    · rw [if_pos e] at h
      cases h
      subst e
      exact ⟨v, by simp, h2⟩
    · rw [if_neg e] at h
      have hb : (f == n) = false := by simpa using e
      rw [hb]
      exact lk_rep h h3
theorem lk_none {f : Str} : ∀ {ns : List Str} {vs : List V}, f ∉ ns → (ns.zip vs).lookup f = none
  | [], _, _ => rfl
  | _ :: _, [], _ => rfl
  | n :: ns, v :: vs, h => by
    rw [List.zip_cons_cons, List.lookup_cons]
    have hb : (f == n) = false := by
      have : ¬ f = n := fun e => h (by rw [e]; exact List.mem_cons_self)
      simpa using this
    rw [hb]
    exact lk_none fun z => h (List.mem_cons_of_mem _ z)
theorem own_H {K : PySem.W.Frag} {G H : Hp} {M : Mem} {x : PV} {v : V} {ns : List Str} {xs : List PV} (h : own M x = some (C, ns, xs)) (r : Rep K G x v) (w : Wf K M H G) : ∃ p dx vs, v = .ref p ∧ H p = some (.ins C dx (ns.zip vs)) ∧ Reps K G xs vs := by
  cases x with
  | obj C' ns' xs' =>
    cases h
    obtain ⟨a, dx, vs, h1, h2, h3⟩ := r
    exact ⟨a, dx, vs, h1, w.sub _ _ h2, h3⟩
  | ref a =>
    replace h : (match M a with
      | some (.ins C ns vs) => some (C, ns, vs)
      | _ => none) = some (C, ns, xs) := h
    split at h
    · rename_i hm
      cases h
      obtain ⟨_, dx, vs, h1, h2⟩ := w.mem a _ hm
      exact ⟨a, dx, vs, r, h1, h2⟩
    · cases h
  | _ => cases h
def fldP (K : PySem.W.Frag) (f : Str) (x : PV) (M : Mem) (Q : PK) : Prop := ∃ C ns xs y, own M x = some (C, ns, xs) ∧ (Cls K C ∧ NoAttr K C f) ∧ lk f ns xs = some y ∧ Q y M
theorem fldP_own {K : PySem.W.Frag} {f : Str} {x : PV} {M : Mem} {Q : PK} {C : Addr} {ns : List Str} {xs : List PV} {y : PV} (o : own M x = some (C, ns, xs)) (c : Cls K C) (n : NoAttr K C f) (h : lk f ns xs = some y) : fldP K f x M Q = Q y M := propext
  ⟨fun ⟨_, _, _, _, h1, _, h2, q⟩ => by rw [o] at h1; cases h1; rw [h] at h2; cases h2; exact q, fun q => ⟨_, _, _, _, o, ⟨c, n⟩, h, q⟩⟩
def qFld (K : PySem.W.Frag) (f : Str) (t : QT) : QT := fun env M Q E => t env M (fun x M1 => fldP K f x M1 Q) E
theorem qe_fld {f : Str} {t : QT} (he : QE X W e t) (hb : attributeBase e f X.env (eval e X.env) = eval e X.env := by rfl) : QE X W (.Attribute e f pos) (qFld X.K f t) := (pe_fld he hb).imp fun σ H Q ⟨env, M, G, Q0, E0, S, q, L, LE⟩ => by
  refine ⟨env, M, G, _, E0, S, q, fun x M1 v H1 G1 e1 w1 r1 q1 => ?_, LE⟩
  obtain ⟨C, ns, xs, y, h1, ⟨hc, hn⟩, h2, q1⟩ := q1
  obtain ⟨a, dx, vs, h3, h4, h5⟩ := own_H h1 r1 w1
  obtain ⟨v', h6, h7⟩ := lk_rep h2 h5
  exact ⟨a, C, dx, _, v', h3, h4, hc, hn, h6, give (L.mono e1) w1 h7 q1⟩
/-- o.m(..), o an instance of the class at C -/
def mthP (C : Addr) (m : Str) (x : PV) (M : Mem) (R : Prop) : Prop := ∃ ns xs, own M x = some (C, ns, xs) ∧ m ∉ ns ∧ R
theorem mthP_own {C : Addr} {m : Str} {x : PV} {M : Mem} {R : Prop} {ns : List Str} {xs : List PV} (o : own M x = some (C, ns, xs)) (h : m ∉ ns) : mthP C m x M R = R := propext
  ⟨fun ⟨_, _, _, _, q⟩ => q, fun q => ⟨_, _, o, h, q⟩⟩
def qMeth (C : Addr) (m : Str) (s : SpQ) (to : QT) (t : QA) : QT := fun env M Q E => to env M (fun x M1 => mthP C m x M1 (t env M1 (fun ys M2 => s (x :: ys) M2 Q E) E)) E
theorem qe_meth {to : QT} {t : QA} {pl : Sem Bool} (he : QE X W o to) (c : Cls X.K C) (hm : Meth X.K C m f) (F : FnQ X.prog X.w X.K X.mg X.base k f fd ps s) (hr : Room k X.A) (hb : Binds X.K fd ps []) (tk : Takes X W) (ha : QPA X W (e :: es) t)
    (hst : starEach (e :: es) X.env = (false, eval e X.env) :: starEach es X.env := by rfl) (hpl : (backTo pos (starEach es X.env)).any (·.1) = false := by rfl)
    (ht : eval (.Call (.Attribute o m apos) (e :: es) [] pos) X.env = (do
      let recv ← eval o X.env
      standAt apos.atName
      let (g, first) ← holding [recv] (getMethod recv m pl)
      callWith pos g first (backTo pos (starEach (e :: es) X.env)) (backToKw pos (keywordEach [] X.env))) := by rfl) :
    QE X W (.Call (.Attribute o m apos) (e :: es) [] pos) (qMeth C m s to t) := by
  refine ⟨fun pins sh σ H Q I ⟨env, M, G, Q0, E0, S, q, L, LE⟩ => PySem.W.methodCall_KW (pl := pl) (thn (he.run pins sh σ H (fun v H1 => ∃ (a dx : Addr) (fs : List (Str × V)), v = .ref a ∧ H1 a = some (.ins C dx fs) ∧ fs.lookup m = none ∧ tieA X.K W t σ H1 fun vs H2 => spQ X.K s (v :: vs) H2 Q (WE W σ)) I ?_) fun u s1 ⟨v, H1, I1, rv, a, dx, fs, ev, ea, l, q1⟩ => ?_) ht⟩
  · refine ⟨env, M, G, _, E0, S, q, fun x M1 v H1 G1 e1 w1 r1 q1 => ?_, LE⟩
    obtain ⟨ns, xs, h1, hn, q1⟩ := q1
    obtain ⟨a, dx, vs, h3, h4, h5⟩ := own_H h1 r1 w1
    refine ⟨a, dx, _, h3, h4, lk_none hn, env, M1, G1, _, E0, S.to e1 w1, q1, fun ys M2 us H2 G2 e2 w2 r2 q2 => ?_, LE.mono e1⟩
    exact ⟨x :: ys, M2, G2, Q0, E0, Reps.cons (Rep.mono e2 _ _ r1) r2, w2, q2, L.mono (e1.trans e2), LE.mono (e1.trans e2)⟩
  · subst ev
    obtain rfl : u = Value.ref a := rv
    refine getmeth_ok I1 ea c hm l (PySem.W.callWith_K (first := [.ref a]) (h₀ := X.base) I.ok.mod.kin hm.kp (thn (ha.run pos pins s1 σ H1 _ I1 q1) fun us s2 ⟨vs, H2, I2, r, q2⟩ => ⟨I2.kIn, ?_⟩) hst hpl)
    exact run_q (us := .ref a :: us) (vs := .ref a :: vs) (ds := []) (dvs := []) F hr hb .nil tk I2 (.cons rfl r) (by rw [List.append_nil]; exact q2)
theorem qe_meth0 {to : QT} {pl : Sem Bool} (he : QE X W o to) (c : Cls X.K C) (hm : Meth X.K C m f) (F : FnQ X.prog X.w X.K X.mg X.base k f fd ps s) (hr : Room k X.A) (hb : Binds X.K fd ps []) (tk : Takes X W)
    (ht : eval (.Call (.Attribute o m apos) [] [] pos) X.env = (do
      let recv ← eval o X.env
      standAt apos.atName
      let (g, first) ← holding [recv] (getMethod recv m pl)
      callWith pos g first (backTo pos (starEach [] X.env)) (backToKw pos (keywordEach [] X.env))) := by rfl) :
    QE X W (.Call (.Attribute o m apos) [] [] pos) (qMeth C m s to qNil) := by
  refine ⟨fun pins sh σ H Q I ⟨env, M, G, Q0, E0, S, q, L, LE⟩ => PySem.W.methodCall_KW (pl := pl) (thn (he.run pins sh σ H (fun v H1 => ∃ (a dx : Addr) (fs : List (Str × V)), v = .ref a ∧ H1 a = some (.ins C dx fs) ∧ fs.lookup m = none ∧ spQ X.K s [v] H1 Q (WE W σ)) I ?_) fun u s1 ⟨v, H1, I1, rv, a, dx, fs, ev, ea, l, q1⟩ => ?_) ht⟩
  · refine ⟨env, M, G, _, E0, S, q, fun x M1 v H1 G1 e1 w1 r1 q1 => ?_, LE⟩
    obtain ⟨ns, xs, h1, hn, q1⟩ := q1
    obtain ⟨a, dx, vs, h3, h4, h5⟩ := own_H h1 r1 w1
    exact ⟨a, dx, _, h3, h4, lk_none hn, [x], M1, G1, Q0, E0, Reps.one r1, w1, q1, L.mono e1, LE.mono e1⟩
  · subst ev
    obtain rfl : u = Value.ref a := rv
    refine getmeth_ok I1 ea c hm l (PySem.W.callWith_K0 (first := [.ref a]) I1.kIn hm.kp ?_)
    exact run_q (us := [.ref a]) (vs := [.ref a]) (ds := []) (dvs := []) F hr hb .nil tk I1 (.cons rfl .nil) (by rw [List.append_nil]; exact q1)

/-! ### new instances that nobody writes -/
/-- __init__ stores its arguments -/
def spInit (C : Addr) (ns : List Str) : Sp := fun vs H Q _ => ∃ x dx us, vs = .ref x :: us ∧ us.length = ns.length ∧ H x = some (.ins C dx []) ∧ Q .non (upd H x (.ins C dx (ns.zip us)))
def qMake (C : Addr) (ns : List Str) (dps : List PV) (t : QA) : QT := fun env M Q E => t env M (fun xs M1 => (xs ++ dps).length = ns.length ∧ Q (.obj C ns (xs ++ dps)) M1) E
theorem run_makeQ {dvs : List V} {ds : List Value} {pins : List (Addr × Obj)} {σ : L2.St} {H : Hp} {sh : Shared} {Q : VK} {us : List Value} {vs : List V} (Mk1 : Mk X.K C f) (F : FnOk X.prog X.w X.K X.mg X.base (L2.CX X.prog X.w) k f fd ps sp)
    (hr : Room (k + 1) X.A) (hb : Binds X.K fd ps ds) (hd : Vals dvs ds) (tk : Takes X W) (I : Inv X pins σ H sh) (r : Vals vs us)
    (h : ∀ y dx, H y = none → H dx = none → dx ≠ y → sp (.ref y :: (vs ++ dvs)) (upd (upd H dx (.own y)) y (.ins C dx [])) (fun v H2 => v = .non ∧ Q (.ref y) H2) (WE W σ)) :
    wpAny (model X.prog X.w) X.A (call (.ref C) us) (EP X pins σ Q) X.xe sh := by
  have q0 := h (sh.heap.objs.size + 1) sh.heap.objs.size (I.hok.fresh (Nat.le_succ _)) (I.hok.fresh (Nat.le_refl _)) (Nat.ne_of_lt (Nat.lt_succ_self _))
  have J := Inv.made (C := C) I
  have r2 : Vals (V.ref (sh.heap.objs.size + 1) :: (vs ++ dvs)) (Value.ref (sh.heap.objs.size + 1) :: (us ++ ds)) := .cons rfl (r.append hd)
  have hl : (Value.ref (sh.heap.objs.size + 1) :: us ++ ds).length = ps.length := (r2.length ▸ F.len _ _ _ _ q0 : _)
  refine wpAny_call (make_map (f := f) I.kIn Mk1.makes Mk1.init (beq_iff_eq.mp Mk1.fn) (codeAny_mono (F.run _ X.stack _ _ ⟨Value.ref (sh.heap.objs.size + 1) :: us, []⟩ _ _ _ _ (hr.make C us []) (J.env0.make C us []) (hb _ (_ :: us) J.kIn hl) r2 q0) fun r s' hq => ?_))
  match r, hq with
  | .error e, hq => exact passAt tk σ pins _ _ e s' J hq
  | .ok (.ret u), hq =>
    obtain ⟨v, H', I3, rv, ev, q3⟩ := J.after hq
    subst ev
    exact ⟨rv, V.ref (sh.heap.objs.size + 1), H', I3, rfl, q3⟩
  | .ok .next, hq => exact hq.elim
  | .ok .brk, hq => exact hq.elim
  | .ok .cont, hq => exact hq.elim
theorem qe_make {t : QA} {dvs : List V} {dps : List PV} {ds : List Value} {ns : List Str} (Mk1 : Mk X.K C f) (F : FnOk X.prog X.w X.K X.mg X.base (L2.CX X.prog X.w) k f fd ps (spInit C ns)) (hr : Room (k + 1) X.A) (hm : X.mg x = some (.ref C)) (hb : Binds X.K fd ps ds) (hd : Vals dvs ds)
    (hp : ∀ G, Reps X.K G dps dvs) (tk : Takes X W) (ha : QPA X W (e :: es) t) (hg : Gl X x := by rfl)
    (hdb : (x == ("__debug__" : Str)) = false := by decide) (he : starEach (e :: es) X.env = (false, eval e X.env) :: starEach es X.env := by rfl) (hpl : (backTo pos (starEach es X.env)).any (·.1) = false := by rfl) :
    QE X W (.Call (.Name x p) (e :: es) [] pos) (qMake C ns dps t) := by
  refine ⟨fun pins sh σ H Q I ⟨env, M, G, Q0, E0, S, q, L, LE⟩ => wpAny_Call_Name_kw (ld_glob I hg hm (PySem.W.callWith_K (h₀ := X.base) I.ok.mod.kin Mk1.kp (thn (ha.run pos pins sh σ H (fun vs H1 => ∃ xs M1 G1, Ext G G1 ∧ Wf X.K M1 H1 G1 ∧ Reps X.K G1 xs vs ∧ (xs ++ dps).length = ns.length ∧ Q0 (.obj C ns (xs ++ dps)) M1) I ?_) fun us s1 ⟨vs, H1, I1, r, q⟩ => ⟨I1.kIn, ?_⟩) he hpl) hdb)⟩
  · exact ⟨env, M, G, _, E0, S, q, fun xs M1 vs H1 G1 e1 w1 r1 q1 => ⟨xs, M1, G1, e1, w1, r1, q1.1, q1.2⟩, LE⟩
  · obtain ⟨xs, M1, G1, e1, w1, r1, hl, q⟩ := q
    refine run_makeQ Mk1 F hr hb hd tk I1 r fun y dx ny nd ne => ⟨y, dx, vs ++ dvs, rfl, ?_, upd_same, rfl, ?_⟩
    · rw [← hl, (r1.append (hp G1)).length]
    · rw [upd_upd]
      have w2 := w1.newH (o := .own y) nd
      have n2 : upd H1 dx (.own y) y = none := by rw [upd_ne ne.symm]; exact ny
      exact L (.obj C ns (xs ++ dps)) M1 _ _ _ (e1.trans (Ext.new (w2.free n2))) (w2.newG n2) ⟨y, dx, vs ++ dvs, rfl, upd_same, Reps.mono (Ext.new (w2.free n2)) _ _ (r1.append (hp G1))⟩ q
end
end TQ

namespace TQ
open PySem PySem.Spec PyProof.Rows L2
theorem liftX_E {K : PySem.W.Frag} {W : WX} {G : Hp} {env : Sl} {σ : L2.St} {E0 : Value → Option PV → Sl → Mem → Prop} (e : EnvR K G env σ) (h : LiftX K G E0 W) : LiftE K G (fun c pl M' => E0 c pl env M') (WE W σ) :=
  fun c pl M' d H' G' e1 w x q => h c pl env M' d σ H' G' e1 ⟨e.mono e1, w⟩ x q
/-! ### targets -/
abbrev QTG := PV → Sl → Mem → (Sl → Mem → Prop) → Prop
def tieG (K : PySem.W.Frag) (g : QTG) : TG := fun v σ H Q => ∃ x env M G Q0, Rep K G x v ∧ Sim K env M G σ H ∧ g x env M Q0 ∧ LiftN K G Q0 Q
abbrev QPG (X : Cx) (tg : Expr) (g : QTG) : Prop := PG X tg (tieG X.K g)
theorem _root_.L2.PG.imp {X : Cx} {e : Expr} {t t' : TG} (h : PG X e t) (f : ∀ v σ H Q, t' v σ H Q → t v σ H Q) : PG X e t' := ⟨fun pins s σ H v u Q I r q => h.run pins s σ H v u Q I r (f v σ H Q q)⟩
def gNm (i : Nat) : QTG := fun x env M Q => Q (env.set i (some x)) M
section
variable {X : Cx} {W : WX} {pos : Pos}
theorem qg_name {i : Nat} {x : Str} (hN : X.N.Nodup) (hi : X.N[i]? = some x := by rfl) (hx : Loc X.env.scope x := by first | exact Or.inl rfl | exact Or.inr rfl) (hf : X.fn x = true ∨ X.env.scope.names.lookup x = some .local := by first | exact .inl rfl | exact .inr rfl | assumption) : QPG X (.Name x pos) (gNm i) :=
  (pg_name hN hi hx hf).imp fun v σ H Q ⟨x, env, M, G, Q0, r, S, q, L⟩ => L _ M _ H G (Ext.refl G) (S.set r) q
abbrev QTGs := List PV → Sl → Mem → (Sl → Mem → Prop) → Prop
def tieGs (K : PySem.W.Frag) (g : QTGs) : TGs := fun vs σ H Q => ∃ xs env M G Q0, Reps K G xs vs ∧ Sim K env M G σ H ∧ g xs env M Q0 ∧ LiftN K G Q0 Q
theorem _root_.L2.PGs.imp {X : Cx} {e : List Expr} {t t' : TGs} (h : PGs X e t) (f : ∀ v σ H Q, t' v σ H Q → t v σ H Q) : PGs X e t' := ⟨fun pins s σ H v u Q I r q => h.run pins s σ H v u Q I r (f v σ H Q q)⟩
abbrev QPGs (X : Cx) (ts : List Expr) (g : QTGs) : Prop := PGs X ts (tieGs X.K g)
def gsNil : QTGs := fun xs env M Q => match xs with
  | [] => Q env M
  | _ => False
def gsCons (g : QTG) (gs : QTGs) : QTGs := fun xs env M Q => match xs with
  | y :: ys => g y env M fun env' M' => gs ys env' M' Q
  | [] => False
theorem qgs_nil : QPGs X [] gsNil := pgs_nil.imp fun vs σ H Q ⟨xs, env, M, G, Q0, r, S, q, L⟩ => by
  unfold gsNil at q
  split at q
  · cases r
    exact ⟨rfl, L env M σ H G (Ext.refl G) S q⟩
  · exact q.elim
theorem qgs_cons {e : Expr} {es : List Expr} {g : QTG} {gs : QTGs} (h : QPG X e g) (k : QPGs X es gs) (hs : (assignEach (e :: es) X.env).map (·.2) = assign e X.env :: (assignEach es X.env).map (·.2) := by rfl) : QPGs X (e :: es) (gsCons g gs) :=
  (pgs_cons h k hs).imp fun vs σ H Q ⟨xs, env, M, G, Q0, r, S, q, L⟩ => by
    unfold gsCons at q
    split at q
    · rename_i y ys
      obtain ⟨v, ws, rfl, r1, r2⟩ := r
      refine ⟨v, ws, rfl, y, env, M, G, _, r1, S, q, fun env' M' σ' H' G' e1 S1 q1 => ?_⟩
      exact ⟨ys, env', M', G', Q0, Reps.mono e1 _ _ r2, S1, q1, L.mono e1⟩
    · exact q.elim
/-- (a, b, ..) = a tuple -/
def gTu (n : Nat) (gs : QTGs) : QTG := fun x env M Q => match x with
  | .tup xs => xs.length = n ∧ gs xs env M Q
  | _ => False
theorem qg_tup {es : List Expr} {k : Nat} {gs : QTGs} {n : Nat} (hc : X.calm = true) (h : QPGs X es gs) (hn : (assignEach es X.env).length = n := by rfl) (hst : (assignEach es X.env).findIdx? (·.1) = none := by rfl) : QPG X (.Tuple es k pos) (gTu n gs) :=
  (pg_tup hc h hn hst).imp fun v σ H Q ⟨x, env, M, G, Q0, r, S, q, L⟩ => by
    unfold gTu at q
    split at q
    · rename_i xs
      obtain ⟨hl, q⟩ := q
      obtain ⟨p, vs, rfl, h1, r1⟩ := r
      exact ⟨p, vs, rfl, ext_t S.wf.sub h1, by rw [← r1.length]; exact hl, xs, env, M, G, Q0, r1, S, q, L⟩
    · exact q.elim

/-! ### statements -/
def sNext : QS := fun D env M => D.nx env M
def sSeq (t u : QS) : QS := fun D env M => t { D with nx := u D } env M
theorem _root_.L2.PSs.imp' {st : List Stmt} {t t' : TS} (h : PSs X st t) (f : ∀ D σ H, t' D σ H → t D σ H) : PSs X st t' := h.imp f
theorem qss_nil : QPSs X W [] sNext := pss_nil.imp fun D σ H ⟨env, M, G, D0, S, q, L⟩ => L.nx env M σ H G (Ext.refl G) S q
theorem qss_cons {st : Stmt} {rest : List Stmt} {t u : QS} (h : QPS X W st t) (k : QPSs X W rest u) : QPSs X W (st :: rest) (sSeq t u) := (pss_cons h k).imp fun D σ H ⟨env, M, G, D0, S, q, L⟩ =>
  ⟨env, M, G, _, S, q, ⟨fun env' M' σ' H' G' e S1 q1 => ⟨env', M', G', D0, S1, q1, L.mono e⟩, L.rt, L.bk, L.ct, L.ex⟩⟩
theorem qss_one {st : Stmt} {t : QS} (h : QPS X W st t) : QPSs X W [st] t := pss_one h
theorem qs_pass : QPS X W (.Pass pos) sNext := ps_pass.imp fun D σ H ⟨env, M, G, D0, S, q, L⟩ => L.nx env M σ H G (Ext.refl G) S q
def sBreak : QS := fun D env M => D.bk env M
def sCont : QS := fun D env M => D.ct env M
theorem qs_break : QPS X W (.Break pos) sBreak := ps_break.imp fun D σ H ⟨env, M, G, D0, S, q, L⟩ => L.bk env M σ H G (Ext.refl G) S q
theorem qs_continue : QPS X W (.Continue pos) sCont := ps_continue.imp fun D σ H ⟨env, M, G, D0, S, q, L⟩ => L.ct env M σ H G (Ext.refl G) S q
/-- the wish of a statement, for its expressions -/
abbrev exE (D : QEnds) (env : Sl) : EK := fun c pl M => D.ex c pl env M
def sRet (t : QT) : QS := fun D env M => t env M D.rt (exE D env)
theorem qs_ret {e : Expr} {t : QT} (h : QE X W e t) : QPS X W (.Return (some e) pos) (sRet t) := (ps_ret h).imp fun D σ H ⟨env, M, G, D0, S, q, L⟩ => ⟨env, M, G, _, _, S, q, L.rt, liftX_E S.env L.ex⟩
def sDrop (t : QT) : QS := fun D env M => t env M (fun _ M1 => D.nx env M1) (exE D env)
theorem qs_expr {e : Expr} {t : QT} (h : QE X W e t) (hs : swapsWith e none pos.line X.env = pure false := by rfl) : QPS X W (.Expr e pos) (sDrop t) := (ps_expr h hs).imp fun D σ H ⟨env, M, G, D0, S, q, L⟩ =>
  ⟨env, M, G, _, _, S, q, fun x M' v H' G' e w r q1 => L.nx env M' σ H' G' e ⟨S.env.mono e, w⟩ q1, liftX_E S.env L.ex⟩
def sIf (c : QB) (t u : QS) : QS := fun D env M => c env M (fun b M1 => if b = true then t D env M1 else u D env M1) (exE D env)
theorem qs_if {c : Expr} {a b : List Stmt} {tc : QB} {t u : QS} (hc : QPT X W c tc) (ha : QPSs X W a t) (hb : QPSs X W b u) : QPS X W (.If c a b pos) (sIf tc t u) := (ps_if hc ha hb).imp fun D σ H ⟨env, M, G, D0, S, q, L⟩ => by
  refine ⟨env, M, G, _, _, S, q, fun b M1 H1 G1 e w q1 => ?_, liftX_E S.env L.ex⟩
  cases b with
  | true => exact ⟨env, M1, G1, D0, ⟨S.env.mono e, w⟩, q1, L.mono e⟩
  | false => exact ⟨env, M1, G1, D0, ⟨S.env.mono e, w⟩, q1, L.mono e⟩
def sAsg (t : QT) (g : QTG) : QS := fun D env M => t env M (fun x M1 => g x env M1 D.nx) (exE D env)
theorem tieAsg {t : QT} {g : QTG} {D : Ends} {σ : L2.St} {H : Hp} (h : tieS X.K W (sAsg t g) D σ H) : tAsg (tie X.K W t) (tieG X.K g) D σ H := by
  obtain ⟨env, M, G, D0, S, q, L⟩ := h
  refine ⟨env, M, G, _, _, S, q, fun x M1 v H1 G1 e w r q1 => ?_, liftX_E S.env L.ex⟩
  exact ⟨x, env, M1, G1, D0.nx, r, ⟨S.env.mono e, w⟩, q1, L.nx.mono e⟩
theorem qs_asg {tg e : Expr} {t : QT} {g : QTG} (he : QE X W e t) (hg : QPG X tg g) (hs : swapsWithSole [tg] e pos.line X.env = pure false := by rfl) (hw : swappedStores [tg] e X.env = pure none := by rfl)
    (h1 : (assignEach [tg] X.env).map (·.2) = [assign tg X.env] := by rfl) : QPS X W (.Assign [tg] e pos) (sAsg t g) := (ps_asg he hg hs hw h1).imp fun D σ H h => tieAsg h
theorem tieNm {t : TE} {i : Nat} {D : Ends} {σ : L2.St} {H : Hp} (h : tAsg t (tieG X.K (gNm i)) D σ H) (m : ∀ σ H (Q Q' : VK), (∀ v H, Q v H → Q' v H) → t σ H Q → t σ H Q') : tAsg t (gName i) D σ H := by
  refine m _ _ _ _ (fun v H q => ?_) h
  obtain ⟨x, env, M, G, Q0, r, S, q, L⟩ := q
  exact L _ M _ H G (Ext.refl G) (S.set r) q
theorem tie_mono {K : PySem.W.Frag} {t : QT} {σ : L2.St} {H : Hp} {Q Q' : VK} (k : ∀ v H, Q v H → Q' v H) (h : tie K W t σ H Q) : tie K W t σ H Q' := by
  obtain ⟨env, M, G, Q0, E0, S, q, L, LE⟩ := h
  exact ⟨env, M, G, Q0, E0, S, q, fun x M' v H' G' e w r q => k _ _ (L x M' v H' G' e w r q), LE⟩
theorem qs_set (i : Nat) {x : Str} {e : Expr} {t : QT} {pos' : Pos} (hN : X.N.Nodup) (he : QE X W e t) (hi : X.N[i]? = some x := by rfl) (hx : Loc X.env.scope x := by first | exact Or.inl rfl | exact Or.inr rfl) (hs : swapsWith e (some (.Name x pos')) pos.line X.env = pure false := by rfl)
    (hf : X.fn x = true ∨ X.env.scope.names.lookup x = some .local := by first | exact .inl rfl | exact .inr rfl | assumption) : QPS X W (.Assign [.Name x pos'] e pos) (sAsg t (gNm i)) :=
  (ps_set hN hi hx he hs hf).imp fun D σ H h => tieNm (tieAsg h) fun _ _ _ _ k z => tie_mono k z
/-- x op= e -/
def sAug (i : Nat) (t : QT) (f : F2) : QS := fun D env M => ∃ x, env[i]? = some (some x) ∧ t env M (fun y M1 => f x y M1 fun z M2 => D.nx (env.set i (some z)) M2) (exE D env)
theorem qs_aug (i : Nat) {x : Str} {e : Expr} {t : QT} {f : F2} {op : Operator} {pos' : Pos} (hN : X.N.Nodup) (ho : OpQ X (inplaceOp op) f) (he : QE X W e t) (hi : X.N[i]? = some x := by rfl) (hx : Loc X.env.scope x := by first | exact Or.inl rfl | exact Or.inr rfl)
    (hf : X.fn x = true ∨ X.env.scope.names.lookup x = some .local := by first | exact .inl rfl | exact .inr rfl | assumption) : QPS X W (.AugAssign (.Name x pos') op e pos) (sAug i t f) :=
  (ps_aug hN hi hx he ho hf).imp fun D σ H ⟨env, M, G, D0, S, ⟨x, hx, q⟩, L⟩ => by
    obtain ⟨v, h1, h2⟩ := S.env.get _ _ hx
    refine ⟨v, h1, env, M, G, _, _, S, q, fun y M1 u H1 G1 e1 w1 r1 q1 => ?_, liftX_E S.env L.ex⟩
    refine ⟨x, y, M1, G1, _, Rep.mono e1 _ _ h2, r1, w1, q1, fun z M2 zv H2 G2 e2 w2 r2 q2 => ?_⟩
    exact L.nx _ M2 _ H2 G2 (e1.trans e2) (Sim.set ⟨S.env.mono (e1.trans e2), w2⟩ r2) q2
theorem iop_mulA : OpR X (inplaceOp .Mult) (rI IntMulOk fun i j => .int (i * j)) := opI fun _ _ _ _ _ _ _ hc q => imul_int q hc
def iAdd : F2 := fun x y M Q => match x, y with
  | .int i, .int j => Q (.int (i + j)) M
  | .str a, .str b => a.length + b.length ≤ sizeLine ∧ Q (.str (a ++ b)) M
  | _, _ => False
theorem iq_add : OpQ X (inplaceOp .Add) iAdd := by
  intro pins s σ H a b v u Q I ra rb ⟨x, y, M, G, Q0, rx, ry, w, q, L⟩
  cases x <;> cases y <;> first
    | exact iop_add pins s σ H a b v u Q I ra rb ⟨_, _, rx, ry, give L w (x := .int _) rfl q⟩
    | exact iop_add_str pins s σ H a b v u Q I ra rb ⟨_, _, rx, ry, q.1, give L w (x := .str _) rfl q.2⟩
    | exact q.elim
theorem iq_sub : OpQ X (inplaceOp .Sub) bSub := opq_int0 iop_sub (e' := fun i j => .int (i - j)) (fun _ _ _ _ => rfl) fun x y M Q q => by
  cases x <;> cases y <;> first | exact q.elim | exact ⟨_, _, rfl, rfl, q⟩
def iMul : F2 := fun x y M Q => match x, y with
  | .int i, .int j => IntMulOk i j ∧ Q (.int (i * j)) M
  | _, _ => False
theorem iq_mul : OpQ X (inplaceOp .Mult) iMul := opq_int iop_mulA (e' := fun i j => .int (i * j)) (fun _ _ _ _ => rfl) fun x y M Q q => by
  cases x <;> cases y <;> first | exact q.elim | exact ⟨_, _, rfl, rfl, q⟩

/-! ### loops -/
def sWhile (c : QB) (b : QS) : QS := fun D env M => ∃ I : Nat → Sl → Mem → Prop, (∃ m, I m env M) ∧ ∀ m env M, I m env M → c env M (fun k M1 => if k = true then
    b { D with nx := fun env' M' => ∃ m', m' < m ∧ I m' env' M', bk := D.nx, ct := fun env' M' => ∃ m', m' < m ∧ I m' env' M' } env M1 else D.nx env M1) (exE D env)
theorem qs_while {c : Expr} {body : List Stmt} {tc : QB} {tb : QS} (po : PassesOwn (model X.prog X.w) X.A X.env X.xe) (hc : QPT X W c tc) (hb : QPSs X W body tb) : QPS X W (.While c body [] pos) (sWhile tc tb) := (ps_while po hc hb).imp fun D σ H ⟨env, M, G, D0, S, ⟨I, ⟨m, hm⟩, hI⟩, L⟩ => by
  refine ⟨fun m σ H => ∃ env M G1, Ext G G1 ∧ Sim X.K env M G1 σ H ∧ I m env M, ⟨m, env, M, G, Ext.refl G, S, hm⟩, fun m σ H ⟨env, M, G1, e1, S1, h1⟩ => ?_⟩
  refine ⟨env, M, G1, _, _, S1, hI m env M h1, fun b M2 H2 G2 e2 w2 q2 => ?_, liftX_E S1.env (L.ex.mono e1)⟩
  have S2 := S1.to e2 w2
  cases b with
  | false => exact L.nx env M2 σ H2 G2 (e1.trans e2) S2 q2
  | true =>
    rw [if_pos rfl] at q2
    refine ⟨fun σ' H' => ∃ m', m' < m ∧ ∃ env M G1, Ext G G1 ∧ Sim X.K env M G1 σ' H' ∧ I m' env M, fun σ' H' h => h, ?_⟩
    have nxt : LiftN X.K G2 (fun env' M' => ∃ m', m' < m ∧ I m' env' M') (fun σ' H' => ∃ m', m' < m ∧ ∃ env M G1, Ext G G1 ∧ Sim X.K env M G1 σ' H' ∧ I m' env M) := fun env' M' σ' H' G' e S' ⟨m', hm', q⟩ => ⟨m', hm', env', M', G', (e1.trans e2).trans e, S', q⟩
    exact ⟨env, M2, G2, _, S2, q2, ⟨nxt, L.rt.mono (e1.trans e2), L.nx.mono (e1.trans e2), nxt, L.ex.mono (e1.trans e2)⟩⟩
/-- for target in the items: what holds at the i-th turn -/
def forI (n : Nat) (at' : Nat → PV → Prop) (st : Mem → Prop) (g : QTG) (b : QS) : QS := fun D env M => ∃ I : Nat → Sl → Mem → Prop, I 0 env M ∧ (∀ i env M, i ≤ n → I i env M → st M) ∧
  (∀ i x env M, i < n → at' i x → I i env M → g x env M fun env' M' => b { D with nx := I (i + 1), bk := D.nx, ct := I (i + 1) } env' M') ∧ ∀ env M, I n env M → D.nx env M
def sForR1 (t : QA) (g : QTG) (b : QS) : QS := fun D env M => t env M (fun xs M1 => ∃ hi, xs = [.int hi] ∧ (-(2 ^ 62) ≤ hi ∧ hi < 2 ^ 62) ∧ forI hi.toNat (fun i x => x = .int i) (fun _ => True) g b D env M1) (exE D env)
def sForR2 (t : QA) (g : QTG) (b : QS) : QS := fun D env M => t env M (fun xs M1 => ∃ lo hi, xs = [.int lo, .int hi] ∧ (-(2 ^ 62) ≤ lo ∧ lo < 2 ^ 62 ∧ -(2 ^ 62) ≤ hi ∧ hi < 2 ^ 62) ∧
  forI (hi - lo).toNat (fun i x => x = .int (lo + i)) (fun _ => True) g b D env M1) (exE D env)
def sForL (t : QT) (g : QTG) (b : QS) : QS := fun D env M => t env M (fun x M1 => match x with
  | .lst xs => forI xs.length (fun i x => xs[i]? = some x) (fun _ => True) g b D env M1
  | .scr ns => forI ns.length (fun i x => ∃ n, ns[i]? = some n ∧ x = .int n) (fun _ => True) g b D env M1
  | .ref a => ∃ xs, M1 a = some (.lst xs) ∧ forI xs.length (fun i x => xs[i]? = some x) (fun M => M a = some (.lst xs)) g b D env M1
  | _ => False) (exE D env)
def sForT (t : QT) (g : QTG) (b : QS) : QS := fun D env M => t env M (fun x M1 => match x with
  | .tup xs => forI xs.length (fun i x => xs[i]? = some x) (fun _ => True) g b D env M1
  | _ => False) (exE D env)
/-- what a turn's invariant is, over the heaps -/
def PvQ (K : PySem.W.Frag) (G : Hp) (I : Nat → Sl → Mem → Prop) : Nat → L2.St → Hp → Prop := fun i σ H => ∃ env M G1, Ext G G1 ∧ Sim K env M G1 σ H ∧ I i env M
theorem turnQ {g : QTG} {b : QS} {G G1 : Hp} {D0 : QEnds} {D : Ends} {I : Nat → Sl → Mem → Prop} {i : Nat} {env : Sl} {M : Mem} {x : PV} {v : V} {σ : L2.St} {H : Hp} (L : LiftD X.K W G D0 D) (e1 : Ext G G1) (S : Sim X.K env M G1 σ H) (r : Rep X.K G1 x v)
    (q : g x env M fun env' M' => b { D0 with nx := I (i + 1), bk := D0.nx, ct := I (i + 1) } env' M') :
    tieG X.K g v σ H fun σ2 H2 => tieS X.K W b { nx := PvQ X.K G I (i + 1), rt := D.rt, bk := D.nx, ct := PvQ X.K G I (i + 1) } σ2 H2 := by
  refine ⟨x, env, M, G1, _, r, S, q, fun env' M' σ' H' G' e S' q' => ?_⟩
  have nxt : LiftN X.K G' (I (i + 1)) (PvQ X.K G I (i + 1)) := fun env2 M2 σ2 H2 G2 e2 S2 q2 => ⟨env2, M2, G2, (e1.trans e).trans e2, S2, q2⟩
  exact ⟨env', M', G', _, S', q', ⟨nxt, L.rt.mono (e1.trans e), L.nx.mono (e1.trans e), nxt, L.ex.mono (e1.trans e)⟩⟩
theorem qs_forR1 {tg a : Expr} {body : List Stmt} {t : QA} {g : QTG} {b : QS} {p pos' : Pos} (po : PassesOwn (model X.prog X.w) X.A X.env X.xe) (hc : X.calm = true) (hm : X.mg "range" = none) (ha : QPA X W [a] t) (hgt : QPG X tg g) (hb : QPSs X W body b) (hg : Gl X "range" := by rfl)
    (hst : starEach [a] X.env = [(false, eval a X.env)] := by rfl) (hfs : ∀ x, foldedSetIterable (.Call (.Name "range" p) [a] [] pos') X.env x = pure x := by intro _; rfl) : QPS X W (.For tg (.Call (.Name "range" p) [a] [] pos') body [] pos) (sForR1 t g b) :=
  (ps_for po hc (pi_range1 hg hm ha hst) hgt hb hfs).imp fun D σ H ⟨env, M, G, D0, S, q, L⟩ => by
    refine ⟨env, M, G, _, _, S, q, fun xs M1 vs H1 G1 e1 w1 r1 q1 => ?_, liftX_E S.env L.ex⟩
    obtain ⟨hi, rfl, ⟨b1, b2⟩, I, i0, _, hs, hd⟩ := q1
    obtain ⟨v, rfl, rv⟩ := reps1 r1
    cases rv
    refine ⟨hi, rfl, b1, b2, for_range (lo := 0) (n := hi.toNat) (PvQ X.K G I) ⟨env, M1, G1, e1, S.to e1 w1, i0⟩ (fun i σ H hi' ⟨env, M, G2, e2, S2, q2⟩ => ?_) (fun σ H ⟨env, M, G2, e2, S2, q2⟩ => L.nx env M σ H G2 e2 S2 (hd env M q2))⟩
    exact turnQ L e2 S2 (x := .int i) (by show V.int _ = V.int _; rw [Int.zero_add]) (hs i _ env M hi' rfl q2)
theorem qs_forR2 {tg a c : Expr} {body : List Stmt} {t : QA} {g : QTG} {b : QS} {p pos' : Pos} (po : PassesOwn (model X.prog X.w) X.A X.env X.xe) (hc : X.calm = true) (hm : X.mg "range" = none) (ha : QPA X W [a, c] t) (hgt : QPG X tg g) (hb : QPSs X W body b) (hg : Gl X "range" := by rfl)
    (hst : starEach [a, c] X.env = [(false, eval a X.env), (false, eval c X.env)] := by rfl) (hst2 : starEach [c] X.env = [(false, eval c X.env)] := by rfl) (hfs : ∀ x, foldedSetIterable (.Call (.Name "range" p) [a, c] [] pos') X.env x = pure x := by intro _; rfl) :
    QPS X W (.For tg (.Call (.Name "range" p) [a, c] [] pos') body [] pos) (sForR2 t g b) :=
  (ps_for po hc (pi_range2 hg hm ha hst hst2) hgt hb hfs).imp fun D σ H ⟨env, M, G, D0, S, q, L⟩ => by
    refine ⟨env, M, G, _, _, S, q, fun xs M1 vs H1 G1 e1 w1 r1 q1 => ?_, liftX_E S.env L.ex⟩
    obtain ⟨lo, hi, rfl, ⟨b1, b2, b3, b4⟩, I, i0, _, hs, hd⟩ := q1
    obtain ⟨v, u, rfl, rv, ru⟩ := reps2 r1
    cases rv; cases ru
    refine ⟨lo, hi, rfl, ⟨b1, b2, b3, b4⟩, for_range (lo := lo) (n := (hi - lo).toNat) (PvQ X.K G I) ⟨env, M1, G1, e1, S.to e1 w1, i0⟩ (fun i σ H hi' ⟨env, M, G2, e2, S2, q2⟩ => ?_) (fun σ H ⟨env, M, G2, e2, S2, q2⟩ => L.nx env M σ H G2 e2 S2 (hd env M q2))⟩
    exact turnQ L e2 S2 (x := .int (lo + i)) rfl (hs i _ env M hi' rfl q2)
theorem qs_forT {tg e : Expr} {body : List Stmt} {t : QT} {g : QTG} {b : QS} (po : PassesOwn (model X.prog X.w) X.A X.env X.xe) (hc : X.calm = true) (he : QE X W e t) (hgt : QPG X tg g) (hb : QPSs X W body b) (hfs : ∀ x, foldedSetIterable e X.env x = pure x := by intro _; rfl) :
    QPS X W (.For tg e body [] pos) (sForT t g b) :=
  (ps_for po hc (pi_tup he) hgt hb hfs).imp fun D σ H ⟨env, M, G, D0, S, q, L⟩ => by
    refine ⟨env, M, G, _, _, S, q, fun x M1 v H1 G1 e1 w1 r1 q1 => ?_, liftX_E S.env L.ex⟩
    dsimp only at q1
    split at q1
    · rename_i xs
      obtain ⟨a, vs, rfl, h1, r1⟩ := r1
      obtain ⟨I, i0, _, hs, hd⟩ := q1
      have hT := ext_t w1.sub h1
      refine ⟨a, rfl, ⟨_, hT⟩, for_tup (K := X.K) (a := a) (xs := vs) (PvQ X.K G1 I) ⟨env, M1, G1, Ext.refl _, S.to e1 w1, i0⟩ (fun i σ H _ ⟨env, M, G2, e2, S2, q2⟩ => ext_t S2.wf.sub (ext_t e2 h1)) (fun i v σ H hi' ⟨env, M, G2, e2, S2, q2⟩ => ?_)
        (fun σ H ⟨env, M, G2, e2, S2, q2⟩ => L.nx env M σ H G2 (e1.trans e2) S2 (hd env M (by rw [r1.length]; exact q2)))⟩
      obtain ⟨x, hx, rx⟩ := r1.getV hi'
      exact turnQ (L.mono e1) e2 S2 (Rep.mono e2 _ _ rx) (hs i _ env M (List.getElem?_eq_some_iff.mp hx).1 hx q2)
    · exact q1.elim
theorem qs_forL {tg e : Expr} {body : List Stmt} {t : QT} {g : QTG} {b : QS} (po : PassesOwn (model X.prog X.w) X.A X.env X.xe) (hc : X.calm = true) (he : QE X W e t) (hgt : QPG X tg g) (hb : QPSs X W body b) (hfs : ∀ x, foldedSetIterable e X.env x = pure x := by intro _; rfl) :
    QPS X W (.For tg e body [] pos) (sForL t g b) :=
  (ps_for po hc (pi_list he) hgt hb hfs).imp fun D σ H ⟨env, M, G, D0, S, q, L⟩ => by
    refine ⟨env, M, G, _, _, S, q, fun x M1 v H1 G1 e1 w1 r1 q1 => ?_, liftX_E S.env L.ex⟩
    dsimp only at q1
    split at q1
    · rename_i xs
      obtain ⟨a, vs, rfl, h1, r1⟩ := r1
      obtain ⟨I, i0, _, hs, hd⟩ := q1
      refine ⟨a, rfl, ⟨_, SqL.of (w1.sub _ _ h1)⟩, for_list (K := X.K) (a := a) (xs := vs) (PvQ X.K G1 I) ⟨env, M1, G1, Ext.refl _, S.to e1 w1, i0⟩ (fun i σ H _ ⟨env, M, G2, e2, S2, q2⟩ => SqL.of (S2.wf.sub _ _ (e2 _ _ h1))) (fun i v σ H hi' ⟨env, M, G2, e2, S2, q2⟩ => ?_)
        (fun σ H ⟨env, M, G2, e2, S2, q2⟩ => L.nx env M σ H G2 (e1.trans e2) S2 (hd env M (by rw [r1.length]; exact q2)))⟩
      obtain ⟨x, hx, rx⟩ := r1.getV hi'
      exact turnQ (L.mono e1) e2 S2 (Rep.mono e2 _ _ rx) (hs i _ env M (List.getElem?_eq_some_iff.mp hx).1 hx q2)
    · rename_i ns
      obtain ⟨a, rfl, h1⟩ := r1
      obtain ⟨I, i0, _, hs, hd⟩ := q1
      refine ⟨a, rfl, ⟨_, ext_l w1.sub h1⟩, for_list (K := X.K) (a := a) (xs := ns.map V.int) (PvQ X.K G1 I) ⟨env, M1, G1, Ext.refl _, S.to e1 w1, i0⟩ (fun i σ H _ ⟨env, M, G2, e2, S2, q2⟩ => ext_l S2.wf.sub (ext_l e2 h1)) (fun i v σ H hi' ⟨env, M, G2, e2, S2, q2⟩ => ?_)
        (fun σ H ⟨env, M, G2, e2, S2, q2⟩ => L.nx env M σ H G2 (e1.trans e2) S2 (hd env M (by rw [List.length_map] at q2; exact q2)))⟩
      rw [List.getElem?_map] at hi'
      cases hn : ns[i]? with
      | none => rw [hn] at hi'; cases hi'
      | some n =>
        rw [hn] at hi'
        cases hi'
        exact turnQ (L.mono e1) e2 S2 (x := .int n) rfl (hs i _ env M (List.getElem?_eq_some_iff.mp hn).1 ⟨n, hn, rfl⟩ q2)
    · rename_i a
      cases r1
      obtain ⟨xs, hm, I, i0, hst, hs, hd⟩ := q1
      obtain ⟨_, vs, h1, r1⟩ := w1.mem a _ hm
      refine ⟨a, rfl, ⟨_, SqL.of h1⟩, fun i m σ H => m = xs.length - i ∧ i ≤ xs.length ∧ PvQ X.K G1 I i σ H, ⟨xs.length, by omega, Nat.zero_le _, env, M1, G1, Ext.refl _, S.to e1 w1, i0⟩, fun i m σ H ⟨hm', hi, env, M, G2, e2, S2, q2⟩ => ?_⟩
      obtain ⟨_, ws, h2, r2⟩ := S2.wf.mem a _ (hst i env M hi q2)
      by_cases hn : i = xs.length
      · subst hn
        exact .inl ⟨⟨ws, SqL.of h2, by rw [r2.length]; exact Nat.le_refl _⟩, L.nx env M σ H G2 (e1.trans e2) S2 (hd env M q2)⟩
      · have hi2 : i < xs.length := by omega
        obtain ⟨v, hv, rv⟩ := r2.get (List.getElem?_eq_getElem hi2)
        refine .inr ⟨⟨ws, v, SqL.of h2, hv⟩, PvQ X.K G1 I (i + 1), fun σ' H' h => ⟨m - 1, by omega, by omega, by omega, h⟩, fun x H' hy => ?_⟩
        obtain ⟨rfl, hy⟩ := hy
        have e := hy ws (SqL.of h2)
        rw [hv] at e
        cases e
        exact turnQ (L.mono e1) e2 S2 rv (hs i _ env M hi2 (List.getElem?_eq_getElem hi2) q2)
    · exact q1.elim
end
end TQ

namespace TQ
open PySem PySem.Spec PyProof.Rows L2
/-! ### list comprehensions whose elements leave what is written as it is -/
theorem wipe_get (vs : List Nat) : ∀ {α : Type} (f : List (Option α) → List Nat → List (Option α)) (hf0 : ∀ σ, f σ [] = σ) (hf1 : ∀ σ v vs, f σ (v :: vs) = (f σ vs).set v none) (σ : List (Option α)) (i : Nat), (f σ vs)[i]? = if i ∈ vs then σ[i]?.map (fun _ => none) else σ[i]? := by
  intro α f hf0 hf1 σ i
  induction vs with
  | nil => rw [hf0]; simp
  | cons v vs ih =>
    rw [hf1, List.getElem?_set]
    by_cases h : v = i
    · subst h
      have hl : (f σ vs).length = σ.length := by
        clear ih
        induction vs with
        | nil => rw [hf0]
        | cons w vs ih => rw [hf1, List.length_set, ih]
      rw [if_pos rfl, if_pos List.mem_cons_self, hl]
      by_cases hv : v < σ.length
      · rw [if_pos hv, List.getElem?_eq_getElem hv]; rfl
      · rw [if_neg hv, List.getElem?_eq_none (by omega)]; rfl
    · rw [if_neg h, ih]
      by_cases hm : i ∈ vs
      · rw [if_pos hm, if_pos (List.mem_cons_of_mem _ hm)]
      · rw [if_neg hm, if_neg (fun z => by rcases List.mem_cons.mp z with e | e; exact h e.symm; exact hm e)]
def wipeQ (env : Sl) : List Nat → Sl
  | [] => env
  | v :: vs => (wipeQ env vs).set v none
theorem wipeV_get (σ : L2.St) (vs : List Nat) (i : Nat) : (wipe σ vs)[i]? = if i ∈ vs then σ[i]?.map (fun _ => none) else σ[i]? := wipe_get vs (f := wipe) (fun _ => rfl) (fun _ _ _ => rfl) σ i
theorem wipeQ_get (σ : Sl) (vs : List Nat) (i : Nat) : (wipeQ σ vs)[i]? = if i ∈ vs then σ[i]?.map (fun _ => none) else σ[i]? := wipe_get vs (f := wipeQ) (fun _ => rfl) (fun _ _ _ => rfl) σ i
theorem wipe_set {σ : L2.St} {vs : List Nat} {j : Nat} {x : Option V} (h : j ∈ vs) : wipe ((wipe σ vs).set j x) vs = wipe σ vs := by
  apply List.ext_getElem?
  intro i
  rw [wipeV_get, wipeV_get]
  by_cases hi : i ∈ vs
  · rw [if_pos hi, if_pos hi, List.getElem?_set]
    by_cases e : j = i
    · subst e
      rw [if_pos rfl]
      by_cases hl : j < σ.length
      · rw [if_pos (by rw [wipe_length]; exact hl), List.getElem?_eq_getElem hl]; rfl
      · rw [if_neg (by rw [wipe_length]; exact hl), List.getElem?_eq_none (by omega)] <;> rfl
    · rw [if_neg e, wipeV_get, if_pos hi]
      cases σ[i]? <;> rfl
  · rw [if_neg hi, if_neg hi, List.getElem?_set_ne (fun e => hi (by rw [← e]; exact h)), wipeV_get, if_neg hi]
theorem wipe_set2 {σ : L2.St} {vs : List Nat} {j k : Nat} {x y : Option V} (h : j ∈ vs) (h2 : k ∈ vs) : wipe (((wipe σ vs).set j x).set k y) vs = wipe σ vs := by
  apply List.ext_getElem?
  intro i
  rw [wipeV_get]
  by_cases hi : i ∈ vs
  · rw [if_pos hi]
    have e := congrArg (fun l => l[i]?) (wipe_set (σ := σ) (x := x) h)
    simp only [wipeV_get, if_pos hi] at e
    rw [wipeV_get, if_pos hi, ← e, List.getElem?_set]
    by_cases e2 : k = i
    · subst e2
      rw [if_pos rfl]
      by_cases hl : k < σ.length
      · rw [if_pos (by rw [List.length_set, wipe_length]; exact hl), List.getElem?_eq_getElem (by rw [List.length_set, wipe_length]; exact hl)]; rfl
      · rw [if_neg (by rw [List.length_set, wipe_length]; exact hl), List.getElem?_eq_none (by rw [List.length_set, wipe_length]; omega)] <;> rfl
    · rw [if_neg e2]
  · rw [if_neg hi, List.getElem?_set_ne (fun e => hi (by rw [← e]; exact h2)), List.getElem?_set_ne (fun e => hi (by rw [← e]; exact h))]
theorem EnvR.wipe {K : PySem.W.Frag} {G : Hp} {env : Sl} {σ : L2.St} (h : EnvR K G env σ) (vs : List Nat) : EnvR K G (wipeQ env vs) (L2.wipe σ vs) := by
  refine ⟨?_, fun i x e => ?_⟩
  · have q : ∀ (env : Sl) (vs : List Nat), (wipeQ env vs).length = env.length := fun env vs => by
      induction vs with
      | nil => rfl
      | cons v vs ih => show ((wipeQ env vs).set v none).length = _; rw [List.length_set, ih]
    rw [q, wipe_length, h.len]
  · rw [wipeQ_get] at e
    rw [wipeV_get]
    by_cases hi : i ∈ vs
    · rw [if_pos hi] at e
      cases z : env[i]? with
      | none => rw [z] at e; cases e
      | some o => rw [z] at e; cases e
    · rw [if_neg hi] at e ⊢
      exact h.get i x e
abbrev EF : EK := fun _ _ _ => False
abbrev W0 : WX := fun _ _ _ _ => False
theorem EF_lift {K : PySem.W.Frag} {G : Hp} {E : XK} : LiftE K G EF E := fun _ _ _ _ _ _ _ _ _ q => q.elim
theorem mset_mset {M : Mem} {a : Addr} {m n : MO} : mset (mset M a m) a n = mset M a n := by
  funext b; unfold mset; split <;> rfl
/-- what was written is written no more -/
theorem Wf.freeze {K : PySem.W.Frag} {M : Mem} {H G : Hp} {D : Addr} {xs : List PV} (w : Wf K (mset M D (.lst xs)) H G) (hn : M D = none) : ∃ vs, H D = some (.lst vs) ∧ Reps K G xs vs ∧ G D = none ∧ Wf K M H (upd G D (.lst vs)) := by
  obtain ⟨g0, vs, h1, r1⟩ := w.mem D _ mset_same
  refine ⟨vs, h1, r1, g0, fun a o e => ?_, fun a m e => ?_, fun a ps e => ?_⟩
  · by_cases z : a = D
    · subst z; rw [upd_same] at e; cases e; exact h1
    · rw [upd_ne z] at e; exact w.sub a o e
  · have z : a ≠ D := by rintro rfl; rw [hn] at e; cases e
    obtain ⟨g1, q⟩ := w.mem a m (by rw [mset_ne z]; exact e)
    exact ⟨by rw [upd_ne z]; exact g1, q.mono (Ext.new g0) (fun c o u q n => by rw [upd_ne (ne_of q h1 (fun z => by cases z))]; exact n) (fun _ _ q _ => q) rfl⟩
  · by_cases z : a = D
    · subst z; rw [upd_same] at e; cases e
    · rw [upd_ne z] at e; exact w.ntb a ps e
def MExt (M M' : Mem) : Prop := ∀ a o, M a = some o → M' a = some o
theorem MExt.refl (M : Mem) : MExt M M := fun _ _ h => h
/-- one turn: the target's slots, the test, the element -/
def lcEl (tt : QB) (te : QT) (env2 : Sl) (M2 : Mem) (r : Option PV) : Prop := tt env2 M2 (fun b M4 => M4 = M2 ∧ if b = true then te env2 M2 (fun y M5 => M5 = M2 ∧ r = some y) EF else r = none) EF
def qYes : QB := fun _ M Q _ => Q true M
/-- the kit's test of a comprehension's block -/
def tieY (K : PySem.W.Frag) (tt : QB) : TT := fun σ H Q => tieB K W0 tt σ H Q
abbrev QPTs (X : Cx) (ifs : List Expr) (t : QB) : Prop := PTs X ifs (tieB X.K W0 t)
theorem qts_nil {X : Cx} : QPTs X [] qYes := ⟨fun pins s σ H Q I h => pts_nil.run pins s σ H Q I (by
  obtain ⟨env, M, G, Q0, E0, S, q, L, LE⟩ := h
  exact L true M H G (Ext.refl G) S.wf q)⟩
theorem qts_one {X : Cx} {c : Expr} {t : QB} (h : QPT X W0 c t) : QPTs X [c] t := pts_one h
section
variable {K : PySem.W.Frag}
/-- the accumulator's state ahead of turn i -/
def lcP (K : PySem.W.Frag) (G1 : Hp) (M1 : Mem) (D : Addr) (items : List PV) (r : PV → Option PV) (i : Nat) (H : Hp) : Prop := ∃ G', Ext G1 G' ∧ Wf K (mset M1 D (.lst ((items.take i).filterMap r))) H G'
theorem take_next {items : List PV} {r : PV → Option PV} {i : Nat} {x : PV} (h : items[i]? = some x) : (items.take (i + 1)).filterMap r = (items.take i).filterMap r ++ (match r x with
    | some y => [y]
    | none => []) := by
  rw [List.take_add_one, h, List.filterMap_append]
  congr 1
  simp only [Option.toList]
  cases hr : r x <;> simp [hr]
theorem lc_turnQ {G1 G' H : Hp} {M1 : Mem} {D : Addr} {items : List PV} {r : PV → Option PV} {i : Nat} {x : PV} {env2 : Sl} {σ2 : L2.St} {tt : QB} {te : QT} {Nx : Hp → Prop} (hn : items.length ≤ 100000) (hi : items[i]? = some x) (e1 : Ext G1 G') (hD : M1 D = none)
    (S : Sim K env2 (mset M1 D (.lst ((items.take i).filterMap r))) G' σ2 H) (q : ∀ M2, MExt M1 M2 → lcEl tt te env2 M2 (r x)) (hN : ∀ H', lcP K G1 M1 D items r (i + 1) H' → Nx H') :
    tieB K W0 tt σ2 H fun b H3 => if b = true then tie K W0 te σ2 H3 fun y H4 => ∃ acc, H4 D = some (.lst acc) ∧ acc.length < sizeLine ∧ Nx (upd H4 D (.lst (acc ++ [y]))) else Nx H3 := by
  have hx : MExt M1 (mset M1 D (.lst ((items.take i).filterMap r))) := fun a o e => by rw [mset_ne (by rintro rfl; rw [hD] at e; cases e)]; exact e
  have q := q _ hx
  refine ⟨env2, _, G', _, EF, S, q, fun b M4 H3 G3 e3 w3 q3 => ?_, EF_lift⟩
  obtain ⟨rfl, q3⟩ := q3
  cases b with
  | false =>
    rw [if_neg (by simp)] at q3
    rw [if_neg (by simp)]
    refine hN _ ⟨G3, e1.trans e3, ?_⟩
    rw [take_next hi, q3, List.append_nil]
    exact w3
  | true =>
    rw [if_pos rfl] at q3
    rw [if_pos rfl]
    refine ⟨env2, _, G3, _, EF, S.to e3 w3, q3, fun y M5 v H4 G4 e4 w4 ry q4 => ?_, EF_lift⟩
    obtain ⟨rfl, q4⟩ := q4
    obtain ⟨g0, acc, h1, r1⟩ := w4.mem D _ mset_same
    refine ⟨acc, h1, ?_, hN _ ⟨G4, (e1.trans e3).trans e4, ?_⟩⟩
    · rw [← r1.length, sizeLine_eq]
      have h1 := List.length_filterMap_le r (items.take i)
      have h2 := List.length_take_le i items
      have h3 := List.length_take_le' i items
      omega
    · have w5 := w4.put (p := D) (o := .lst (acc ++ [v])) (m := .lst ((items.take i).filterMap r ++ [y])) g0 (mok_lst (r1.append (Reps.one ry)))
      rw [mset_mset] at w5
      rw [take_next hi, q4]
      exact w5
end
def lcQ (items : List PV) (slots : PV → Option Sl) (tt : QB) (te : QT) (M1 : Mem) (Q : PK) : Prop := items.length ≤ 100000 ∧ ∃ r : PV → Option PV,
  (∀ x ∈ items, ∀ M2, MExt M1 M2 → ∃ env2, slots x = some env2 ∧ lcEl tt te env2 M2 (r x)) ∧ Q (.lst (items.filterMap r)) M1
def qLcL (j : Nat) (vs : List Nat) (tl : QT) (tt : QB) (te : QT) : QT := fun env M Q E => tl env M (fun x M1 => match sqA M1 x with
  | some items => lcQ items (fun y => some ((wipeQ env vs).set j (some y))) tt te M1 Q
  | none => False) E
def qLcR1 (j : Nat) (vs : List Nat) (ta : QA) (tt : QB) (te : QT) : QT := fun env M Q E => ta env M (fun xs M1 => ∃ hi, xs = [.int hi] ∧ (-(2 ^ 62) ≤ hi ∧ hi < 2 ^ 62) ∧
  lcQ ((List.range hi.toNat).map fun i => .int (i : Nat)) (fun y => some ((wipeQ env vs).set j (some y))) tt te M1 Q) E
def qLcT (j : Nat) (vs : List Nat) (tl : QT) (tt : QB) (te : QT) : QT := fun env M Q E => tl env M (fun x M1 => ∃ items, x = .tup items ∧ lcQ items (fun y => some ((wipeQ env vs).set j (some y))) tt te M1 Q) E
section
variable {X : Cx} {W : WX} {pos : Pos}
theorem lc_end {G1 H : Hp} {M1 : Mem} {D : Addr} {items : List PV} {r : PV → Option PV} {Q0 : PK} {Q : VK} (L : LiftV X.K G1 Q0 Q) (hD : M1 D = none) (p : lcP X.K G1 M1 D items r items.length H) (q : Q0 (.lst (items.filterMap r)) M1) : Q (.ref D) H := by
  obtain ⟨G', e1, w⟩ := p
  rw [List.take_length] at w
  obtain ⟨vs, h1, r1, g0, w2⟩ := w.freeze hD
  exact L (.lst (items.filterMap r)) M1 _ H _ (e1.trans (Ext.new g0)) w2 ⟨D, vs, rfl, upd_same, Reps.mono (Ext.new g0) _ _ r1⟩ q
theorem lcL_imp {own : List Nat} {j : Nat} {tl : QT} {tt : QB} {te : QT} {σ : L2.St} {H : Hp} {Q : VK} (hj : j ∈ own) (h : tie X.K W (qLcL j own tl tt te) σ H Q) : tLc (iList X.K (tie X.K W tl)) (gName j) (tieB X.K W0 tt) (tie X.K W0 te) own σ H Q := by
    obtain ⟨env, M, G, Q0, E0, S, q, L, LE⟩ := h
    refine ⟨env, M, G, _, E0, S, q, fun y M1 v H1 G1 e1 w1 r1 q1 => ?_, LE⟩
    dsimp only at q1
    cases hs : sqA M1 y with
    | none => rw [hs] at q1; exact q1.elim
    | some items =>
      rw [hs] at q1
      obtain ⟨hn, r, hr, q1⟩ := q1
      obtain ⟨p, vs, rfl, h1, rs⟩ := sqA_H hs r1 w1
      refine ⟨p, rfl, ⟨_, h1⟩, fun D hD => ?_⟩
      have hM := w1.freeM hD
      -- the items as they stand at any turn
      have src : ∀ {H' G' : Hp} {acc : List PV}, Ext G1 G' → Wf X.K (mset M1 D (.lst acc)) H' G' → ∃ ws, SqL X.K H' p ws ∧ Reps X.K G' items ws := fun {H' G' acc} e w => by
        have hs2 : sqA (mset M1 D (.lst acc)) y = some items := by
          cases y with
          | ref a =>
            have ha : M1 a = some (.lst items) := ml_some (show ml (M1 a) = some items from hs)
            show ml (mset M1 D (.lst acc) a) = some items
            rw [mset_ne (by rintro rfl; rw [hM] at ha; cases ha)]
            exact hs
          | _ => exact hs
        obtain ⟨p', ws, ep, h2, r2⟩ := sqA_H hs2 (Rep.mono e _ _ r1) w
        cases ep
        exact ⟨ws, h2, r2⟩
      refine ⟨fun i m H => m = items.length - i ∧ i ≤ items.length ∧ lcP X.K G1 M1 D items r i H, ⟨items.length, by omega, Nat.zero_le _, G1, Ext.refl _, ?_⟩, fun i m H ⟨hm, hi, hp⟩ => ?_⟩
      · exact w1.put (w1.free hD) (mok_lst Reps.nil)
      · obtain ⟨G', e', w'⟩ := _root_.id hp
        obtain ⟨ws, h2, r2⟩ := src e' w'
        by_cases hz : i = items.length
        · subst hz
          exact .inl ⟨⟨ws, h2, by rw [r2.length]; exact Nat.le_refl _⟩, lc_end (L.mono e1) hM hp q1⟩
        · have hlt : i < items.length := by omega
          have hx := List.getElem?_eq_getElem hlt
          obtain ⟨v, hv, rv⟩ := r2.get hx
          refine .inr ⟨⟨ws, v, h2, hv⟩, lcP X.K G1 M1 D items r (i + 1), fun H' h => ⟨m - 1, by omega, by omega, by omega, h⟩, fun z H' hy => ?_⟩
          obtain ⟨rfl, hy⟩ := hy
          have ez := hy ws h2
          rw [hv] at ez
          cases ez
          refine ⟨wipe_set hj, ?_⟩
          have S2 : Sim X.K ((wipeQ env own).set j (some items[i])) _ G' ((L2.wipe σ own).set j (some v)) H' := ⟨((S.env.mono (e1.trans e')).wipe _).set rv, w'⟩
          refine lc_turnQ hn hx e' hM S2 (fun M2 hM2 => ?_) (fun H' h => h)
          obtain ⟨env2, ee, q2⟩ := hr _ (List.getElem_mem hlt) M2 hM2
          cases ee
          exact q2
theorem lcT_imp {own : List Nat} {j : Nat} {tl : QT} {tt : QB} {te : QT} {σ : L2.St} {H : Hp} {Q : VK} (hj : j ∈ own) (h : tie X.K W (qLcT j own tl tt te) σ H Q) : tLc (iTup X.K (tie X.K W tl)) (gName j) (tieB X.K W0 tt) (tie X.K W0 te) own σ H Q := by
    obtain ⟨env, M, G, Q0, E0, S, q, L, LE⟩ := h
    refine ⟨env, M, G, _, E0, S, q, fun y M1 v H1 G1 e1 w1 r1 q1 => ?_, LE⟩
    obtain ⟨items, rfl, hn, r, hr, q1⟩ := q1
    obtain ⟨p, vs, rfl, h1, rs⟩ := r1
    refine ⟨p, rfl, ⟨_, ext_t w1.sub h1⟩, fun D hD => ?_⟩
    have hM := w1.freeM hD
    refine lc_tup (K := X.K) (a := p) (xs := vs) (lcP X.K G1 M1 D items r) ⟨G1, Ext.refl _, w1.put (w1.free hD) (mok_lst Reps.nil)⟩ (fun i H _ ⟨G', e', w'⟩ => ext_t w'.sub (ext_t e' h1)) (fun i v H hv ⟨G', e', w'⟩ => ?_)
      (fun H hp => lc_end (L.mono e1) hM (by rw [rs.length]; exact hp) q1)
    obtain ⟨z, hx, rz⟩ := rs.getV hv
    refine ⟨wipe_set hj, ?_⟩
    have S2 : Sim X.K ((wipeQ env own).set j (some z)) _ G' ((L2.wipe σ own).set j (some v)) H := ⟨((S.env.mono (e1.trans e')).wipe _).set (Rep.mono e' _ _ rz), w'⟩
    refine lc_turnQ hn hx e' hM S2 (fun M2 hM2 => ?_) (fun H' h => h)
    obtain ⟨env2, ee, q2⟩ := hr _ (List.mem_of_getElem? hx) M2 hM2
    cases ee
    exact q2
theorem lcR1_imp {own : List Nat} {j : Nat} {ta : QA} {tt : QB} {te : QT} {σ : L2.St} {H : Hp} {Q : VK} (hj : j ∈ own) (h : tie X.K W (qLcR1 j own ta tt te) σ H Q) : tLc (iRng1 (tieA X.K W ta)) (gName j) (tieB X.K W0 tt) (tie X.K W0 te) own σ H Q := by
    obtain ⟨env, M, G, Q0, E0, S, q, L, LE⟩ := h
    refine ⟨env, M, G, _, E0, S, q, fun xs M1 vs H1 G1 e1 w1 r1 q1 => ?_, LE⟩
    obtain ⟨hi, rfl, ⟨b1, b2⟩, hn, r, hr, q1⟩ := q1
    obtain ⟨v, rfl, rv⟩ := reps1 r1
    cases rv
    refine ⟨hi, rfl, b1, b2, fun D hD => ?_⟩
    have hM := w1.freeM hD
    have hlen : ((List.range hi.toNat).map fun i => PV.int (i : Nat)).length = hi.toNat := by simp
    refine lc_range (lo := 0) (n := hi.toNat) (lcP X.K G1 M1 D ((List.range hi.toNat).map fun i => PV.int (i : Nat)) r) ⟨G1, Ext.refl _, w1.put (w1.free hD) (mok_lst Reps.nil)⟩ (fun i H hlt ⟨G', e', w'⟩ => ?_)
      (fun H hp => lc_end (L.mono e1) hM (by rw [hlen]; exact hp) q1)
    have hx : ((List.range hi.toNat).map fun i => PV.int (i : Nat))[i]? = some (.int (i : Nat)) := by
      rw [List.getElem?_map, List.getElem?_range hlt]; rfl
    refine ⟨wipe_set hj, ?_⟩
    have S2 : Sim X.K ((wipeQ env own).set j (some (.int (i : Nat)))) _ G' ((L2.wipe σ own).set j (some (.int (0 + (i : Int))))) H := ⟨((S.env.mono (e1.trans e')).wipe _).set (show V.int _ = V.int _ by rw [Int.zero_add]), w'⟩
    refine lc_turnQ hn hx e' hM S2 (fun M2 hM2 => ?_) (fun H' h => h)
    obtain ⟨env2, ee, q2⟩ := hr _ (List.mem_of_getElem? hx) M2 hM2
    cases ee
    exact q2
theorem qe_lcL {elt iter : Expr} {x : Str} {px : Pos} {ifs : List Expr} {scope : Scope} {own : List (Str × Nat)} {j : Nat} {tl : QT} {tt : QB} {te : QT} (hc : X.calm = true) (hN : X.N.Nodup) (hl : QE X W iter tl) (hj : j ∈ own.map (·.2))
    (ok : BlkOk X.N X.env.scope scope own) (hg : ∀ (s : Shared) (H : Hp) (C : Addr) (cl : List (Str × Addr)) (fp : List Addr), PG (X.blk s H scope (compEnvC scope cl C X.env) fp) (.Name x px) (gName j))
    (ht : ∀ (s : Shared) (H : Hp) (C : Addr) (cl : List (Str × Addr)) (fp : List Addr), QPTs (X.blk s H scope (compEnvC scope cl C X.env) fp) ifs tt)
    (he : ∀ (s : Shared) (H : Hp) (C : Addr) (cl : List (Str × Addr)) (fp : List Addr), QE (X.blk s H scope (compEnvC scope cl C X.env) fp) W0 elt te) (hfs : ∀ v, foldedSetIterable iter X.env v = pure v := by intro _; rfl) :
    QE X W (.ListComp elt [{ target := .Name x px, iter := iter, ifs := ifs, is_async := 0 }] scope pos) (qLcL j (own.map (·.2)) tl tt te) :=
  (pe_lc (tt := tieB X.K W0 tt) (te := tie X.K W0 te) hc hN (pi_list hl) ok hg ht he hfs).imp fun σ H Q h => lcL_imp hj h
theorem qs_lcL (i : Nat) {y : Str} {py spos : Pos} {elt iter : Expr} {x : Str} {px : Pos} {ifs : List Expr} {scope : Scope} {own : List (Str × Nat)} {j : Nat} {tl : QT} {tt : QB} {te : QT} (hc : X.calm = true) (hN : X.N.Nodup) (hl : QE X W iter tl) (hj : j ∈ own.map (·.2))
    (ok : BlkOk X.N X.env.scope scope own) (hg : ∀ (s : Shared) (H : Hp) (C : Addr) (cl : List (Str × Addr)) (fp : List Addr), PG (X.blk s H scope (compEnvC scope cl C X.env) fp) (.Name x px) (gName j))
    (ht : ∀ (s : Shared) (H : Hp) (C : Addr) (cl : List (Str × Addr)) (fp : List Addr), QPTs (X.blk s H scope (compEnvC scope cl C X.env) fp) ifs tt)
    (he : ∀ (s : Shared) (H : Hp) (C : Addr) (cl : List (Str × Addr)) (fp : List Addr), QE (X.blk s H scope (compEnvC scope cl C X.env) fp) W0 elt te) (hfs : ∀ v, foldedSetIterable iter X.env v = pure v := by intro _; rfl) (hlo : X.env.scope.names.lookup y = some .local := by rfl) (hi : X.N[i]? = some y := by rfl) (hsw : swapsWith (.ListComp elt [{ target := .Name x px, iter := iter, ifs := ifs, is_async := 0 }] scope pos) (some (.Name y py)) spos.line X.env = pure true := by exact sw_true rfl rfl rfl (by decide +kernel)) :
    QPS X W (.Assign [.Name y py] (.ListComp elt [{ target := .Name x px, iter := iter, ifs := ifs, is_async := 0 }] scope pos) spos) (sAsg (qLcL j (own.map (·.2)) tl tt te) (gNm i)) :=
  (ps_setLc (tt := tieB X.K W0 tt) (te := tie X.K W0 te) hc hN hi hlo hsw (pi_list hl) ok hg ht he hfs).imp fun D σ H h => lcL_imp hj (tieNm (tieAsg h) fun _ _ _ _ k z => tie_mono k z)
theorem qe_lcT {elt iter : Expr} {x : Str} {px : Pos} {ifs : List Expr} {scope : Scope} {own : List (Str × Nat)} {j : Nat} {tl : QT} {tt : QB} {te : QT} (hc : X.calm = true) (hN : X.N.Nodup) (hl : QE X W iter tl) (hj : j ∈ own.map (·.2))
    (ok : BlkOk X.N X.env.scope scope own) (hg : ∀ (s : Shared) (H : Hp) (C : Addr) (cl : List (Str × Addr)) (fp : List Addr), PG (X.blk s H scope (compEnvC scope cl C X.env) fp) (.Name x px) (gName j))
    (ht : ∀ (s : Shared) (H : Hp) (C : Addr) (cl : List (Str × Addr)) (fp : List Addr), QPTs (X.blk s H scope (compEnvC scope cl C X.env) fp) ifs tt)
    (he : ∀ (s : Shared) (H : Hp) (C : Addr) (cl : List (Str × Addr)) (fp : List Addr), QE (X.blk s H scope (compEnvC scope cl C X.env) fp) W0 elt te) (hfs : ∀ v, foldedSetIterable iter X.env v = pure v := by intro _; rfl) :
    QE X W (.ListComp elt [{ target := .Name x px, iter := iter, ifs := ifs, is_async := 0 }] scope pos) (qLcT j (own.map (·.2)) tl tt te) :=
  (pe_lc (tt := tieB X.K W0 tt) (te := tie X.K W0 te) hc hN (pi_tup hl) ok hg ht he hfs).imp fun σ H Q h => lcT_imp hj h
theorem qs_lcT (i : Nat) {y : Str} {py spos : Pos} {elt iter : Expr} {x : Str} {px : Pos} {ifs : List Expr} {scope : Scope} {own : List (Str × Nat)} {j : Nat} {tl : QT} {tt : QB} {te : QT} (hc : X.calm = true) (hN : X.N.Nodup) (hl : QE X W iter tl) (hj : j ∈ own.map (·.2))
    (ok : BlkOk X.N X.env.scope scope own) (hg : ∀ (s : Shared) (H : Hp) (C : Addr) (cl : List (Str × Addr)) (fp : List Addr), PG (X.blk s H scope (compEnvC scope cl C X.env) fp) (.Name x px) (gName j))
    (ht : ∀ (s : Shared) (H : Hp) (C : Addr) (cl : List (Str × Addr)) (fp : List Addr), QPTs (X.blk s H scope (compEnvC scope cl C X.env) fp) ifs tt)
    (he : ∀ (s : Shared) (H : Hp) (C : Addr) (cl : List (Str × Addr)) (fp : List Addr), QE (X.blk s H scope (compEnvC scope cl C X.env) fp) W0 elt te) (hfs : ∀ v, foldedSetIterable iter X.env v = pure v := by intro _; rfl) (hlo : X.env.scope.names.lookup y = some .local := by rfl) (hi : X.N[i]? = some y := by rfl) (hsw : swapsWith (.ListComp elt [{ target := .Name x px, iter := iter, ifs := ifs, is_async := 0 }] scope pos) (some (.Name y py)) spos.line X.env = pure true := by exact sw_true rfl rfl rfl (by decide +kernel)) :
    QPS X W (.Assign [.Name y py] (.ListComp elt [{ target := .Name x px, iter := iter, ifs := ifs, is_async := 0 }] scope pos) spos) (sAsg (qLcT j (own.map (·.2)) tl tt te) (gNm i)) :=
  (ps_setLc (tt := tieB X.K W0 tt) (te := tie X.K W0 te) hc hN hi hlo hsw (pi_tup hl) ok hg ht he hfs).imp fun D σ H h => lcT_imp hj (tieNm (tieAsg h) fun _ _ _ _ k z => tie_mono k z)
theorem qe_lcR1 {elt a : Expr} {x : Str} {px p pos' : Pos} {ifs : List Expr} {scope : Scope} {own : List (Str × Nat)} {j : Nat} {ta : QA} {tt : QB} {te : QT} (hc : X.calm = true) (hN : X.N.Nodup) (hm : X.mg "range" = none) (hl : QPA X W [a] ta) (hj : j ∈ own.map (·.2))
    (ok : BlkOk X.N X.env.scope scope own) (hg : ∀ (s : Shared) (H : Hp) (C : Addr) (cl : List (Str × Addr)) (fp : List Addr), PG (X.blk s H scope (compEnvC scope cl C X.env) fp) (.Name x px) (gName j))
    (ht : ∀ (s : Shared) (H : Hp) (C : Addr) (cl : List (Str × Addr)) (fp : List Addr), QPTs (X.blk s H scope (compEnvC scope cl C X.env) fp) ifs tt)
    (he : ∀ (s : Shared) (H : Hp) (C : Addr) (cl : List (Str × Addr)) (fp : List Addr), QE (X.blk s H scope (compEnvC scope cl C X.env) fp) W0 elt te) (hgr : Gl X "range" := by rfl)
    (hst : starEach [a] X.env = [(false, eval a X.env)] := by rfl) (hfs : ∀ v, foldedSetIterable (.Call (.Name "range" p) [a] [] pos') X.env v = pure v := by intro _; rfl) :
    QE X W (.ListComp elt [{ target := .Name x px, iter := .Call (.Name "range" p) [a] [] pos', ifs := ifs, is_async := 0 }] scope pos) (qLcR1 j (own.map (·.2)) ta tt te) :=
  (pe_lc (tt := tieB X.K W0 tt) (te := tie X.K W0 te) hc hN (pi_range1 hgr hm hl hst) ok hg ht he hfs).imp fun σ H Q h => lcR1_imp hj h
theorem qs_lcR1 (i : Nat) {y : Str} {py spos : Pos} {elt a : Expr} {x : Str} {px p pos' : Pos} {ifs : List Expr} {scope : Scope} {own : List (Str × Nat)} {j : Nat} {ta : QA} {tt : QB} {te : QT} (hc : X.calm = true) (hN : X.N.Nodup) (hm : X.mg "range" = none) (hl : QPA X W [a] ta) (hj : j ∈ own.map (·.2))
    (ok : BlkOk X.N X.env.scope scope own) (hg : ∀ (s : Shared) (H : Hp) (C : Addr) (cl : List (Str × Addr)) (fp : List Addr), PG (X.blk s H scope (compEnvC scope cl C X.env) fp) (.Name x px) (gName j))
    (ht : ∀ (s : Shared) (H : Hp) (C : Addr) (cl : List (Str × Addr)) (fp : List Addr), QPTs (X.blk s H scope (compEnvC scope cl C X.env) fp) ifs tt)
    (he : ∀ (s : Shared) (H : Hp) (C : Addr) (cl : List (Str × Addr)) (fp : List Addr), QE (X.blk s H scope (compEnvC scope cl C X.env) fp) W0 elt te) (hgr : Gl X "range" := by rfl)
    (hst : starEach [a] X.env = [(false, eval a X.env)] := by rfl) (hfs : ∀ v, foldedSetIterable (.Call (.Name "range" p) [a] [] pos') X.env v = pure v := by intro _; rfl) (hlo : X.env.scope.names.lookup y = some .local := by rfl) (hi : X.N[i]? = some y := by rfl) (hsw : swapsWith (.ListComp elt [{ target := .Name x px, iter := .Call (.Name "range" p) [a] [] pos', ifs := ifs, is_async := 0 }] scope pos) (some (.Name y py)) spos.line X.env = pure true := by exact sw_true rfl rfl rfl (by decide +kernel)) :
    QPS X W (.Assign [.Name y py] (.ListComp elt [{ target := .Name x px, iter := .Call (.Name "range" p) [a] [] pos', ifs := ifs, is_async := 0 }] scope pos) spos) (sAsg (qLcR1 j (own.map (·.2)) ta tt te) (gNm i)) :=
  (ps_setLc (tt := tieB X.K W0 tt) (te := tie X.K W0 te) hc hN hi hlo hsw (pi_range1 hgr hm hl hst) ok hg ht he hfs).imp fun D σ H h => lcR1_imp hj (tieNm (tieAsg h) fun _ _ _ _ k z => tie_mono k z)
end
end TQ

namespace TQ
open PySem PySem.Spec PyProof.Rows L2
section
variable {X : Cx} {W : WX} {pos : Pos}
/-! ### truth of ints and texts, chains -/
def trP (M : Mem) : PV → Option Bool
  | .non => some false
  | .bl b => some b
  | .int i => some (i != 0)
  | .tup xs => some (!xs.isEmpty)
  | x => (sqA M x).map fun xs => !xs.isEmpty
theorem trP_V {K : PySem.W.Frag} {G H : Hp} {M : Mem} {x : PV} {v : V} {b : Bool} (h : trP M x = some b) (r : Rep K G x v) (w : Wf K M H G) : TruV K v H b := by
  have emp : ∀ {xs : List PV} {vs : List V}, Reps K G xs vs → (!xs.isEmpty) = !vs.isEmpty := fun {xs vs} r => by
    cases xs with
    | nil => cases r; rfl
    | cons x xs => obtain ⟨v, ws, rfl, _⟩ := r; rfl
  have seq : ∀ {x : PV}, (sqA M x).map (fun xs => !xs.isEmpty) = some b → Rep K G x v → TruV K v H b := fun {x} h r => by
    cases hs : sqA M x with
    | none => rw [hs] at h; cases h
    | some xs =>
      rw [hs] at h
      cases h
      obtain ⟨p, vs, rfl, h1, r1⟩ := sqA_H hs r w
      exact .inl ⟨vs, h1, emp r1⟩
  cases x with
  | non => cases r; cases h; rfl
  | bl b => cases r; cases h; rfl
  | int b => cases r; cases h; rfl
  | tup xs =>
    cases h
    obtain ⟨p, vs, rfl, h1, r1⟩ := r
    exact .inr (.inl ⟨vs, ext_t w.sub h1, emp r1⟩)
  | _ => exact seq (by exact h) r
def qOrT (ta tb : QT) : QT := fun env M Q E => ta env M (fun x M1 => ∃ k, trP M1 x = some k ∧ if k = true then Q x M1 else tb env M1 Q E) E
theorem qe_orT {a b : Expr} {rest : List Expr} {t u : QT} (h : QE X W a t) (k : QE X W (.BoolOp .Or (b :: rest) pos) u) : QE X W (.BoolOp .Or (a :: b :: rest) pos) (qOrT t u) :=
  (pe_orT h k).imp fun σ H Q ⟨env, M, G, Q0, E0, S, q, L, LE⟩ => by
    refine ⟨env, M, G, _, E0, S, q, fun x M1 v H1 G1 e1 w1 r1 q1 => ?_, LE⟩
    obtain ⟨c, hc, q1⟩ := q1
    refine ⟨c, trP_V hc r1 w1, ?_⟩
    cases c with
    | true => exact L x M1 v H1 G1 e1 w1 r1 q1
    | false => exact ⟨env, M1, G1, Q0, E0, S.to e1 w1, q1, L.mono e1, LE.mono e1⟩
def qTru (t : QT) : QB := fun env M Q E => t env M (fun x M1 => ∃ b, trP M1 x = some b ∧ Q b M1) E
theorem qt_tru {e : Expr} {t : QT} (h : QE X W e t) (he : ∀ whole, isTrue e X.env whole = (do let v ← whole; standAt e.pos; holding [v] (truthy v)) := by intro _; rfl) : QPT X W e (qTru t) :=
  (pt_truth h he).imp fun σ H Q ⟨env, M, G, Q0, E0, S, q, L, LE⟩ => by
    refine ⟨env, M, G, _, E0, S, q, fun x M1 v H1 G1 e1 w1 r1 q1 => ?_, LE⟩
    obtain ⟨b, hb, q1⟩ := q1
    exact ⟨b, trP_V hb r1 w1, L b M1 H1 G1 e1 w1 q1⟩
def qChain (f f' : F2) (ta tb tc : QT) : QT := fun env M Q E => ta env M (fun x M1 => tb env M1 (fun y M2 => f x y M2 fun z M3 => ∃ k, z = .bl k ∧ if k = true then tc env M3 (fun u M4 => f' y u M4 Q) E else Q (.bl false) M3) E) E
theorem tieChain {f f' : F2} {ta tb tc : QT} {σ : L2.St} {H : Hp} {Q : VK} (h : tie X.K W (qChain f f' ta tb tc) σ H Q) :
    tChain (fun a b H Q => ∃ x y M G Q0, Rep X.K G x a ∧ Rep X.K G y b ∧ Wf X.K M H G ∧ f x y M Q0 ∧ LiftV X.K G Q0 Q) (fun a b H Q => ∃ x y M G Q0, Rep X.K G x a ∧ Rep X.K G y b ∧ Wf X.K M H G ∧ f' x y M Q0 ∧ LiftV X.K G Q0 Q) (tie X.K W ta) (tie X.K W tb) (tie X.K W tc) σ H Q := by
  obtain ⟨env, M, G, Q0, E0, S, q, L, LE⟩ := h
  refine ⟨env, M, G, _, E0, S, q, fun x M1 v H1 G1 e1 w1 r1 q1 => ?_, LE⟩
  refine ⟨env, M1, G1, _, E0, S.to e1 w1, q1, fun y M2 u H2 G2 e2 w2 r2 q2 => ?_, LE.mono e1⟩
  refine ⟨x, y, M2, G2, _, Rep.mono e2 _ _ r1, r2, w2, q2, fun z M3 zv H3 G3 e3 w3 r3 q3 => ?_⟩
  obtain ⟨k, rfl, q3⟩ := q3
  refine ⟨k, r3, ?_⟩
  cases k with
  | true =>
    refine ⟨env, M3, G3, _, E0, S.to ((e1.trans e2).trans e3) w3, q3, fun c M4 cv H4 G4 e4 w4 r4 q4 => ?_, LE.mono ((e1.trans e2).trans e3)⟩
    exact ⟨y, c, M4, G4, Q0, Rep.mono (e3.trans e4) _ _ r2, r4, w4, q4, L.mono (((e1.trans e2).trans e3).trans e4)⟩
  | false => exact L (.bl false) M3 _ H3 G3 ((e1.trans e2).trans e3) w3 rfl q3
theorem qe_chain {op op' : CmpOp} {a b c : Expr} {f f' : F2} {ta tb tc : QT} (ho : OpQ X (compareOp op) f) (ho' : OpQ X (compareOp op') f') (ha : QE X W a ta) (hb : QE X W b tb) (hc : QE X W c tc) (hm : lastMarks [op, op'] [b, c] = false := by with_unfolding_all rfl) :
    QE X W (.Compare a [op, op'] [b, c] pos) (qChain f f' ta tb tc) := (pe_chain ho ho' ha hb hc hm).imp fun σ H Q h => tieChain h
theorem qt_chain {op op' : CmpOp} {a b c : Expr} {f f' : F2} {ta tb tc : QT} (ho : OpQ X (compareOp op) f) (ho' : OpQ X (compareOp op') f') (ha : QE X W a ta) (hb : QE X W b tb) (hc : QE X W c tc) (hm : lastMarks [op, op'] [b, c] = false := by with_unfolding_all rfl) :
    QPT X W (.Compare a [op, op'] [b, c] pos) (qTst (qChain f f' ta tb tc)) := (pt_chain ho ho' ha hb hc hm).imp fun σ H Q h => tieChain (tie_tst h)

/-! ### isinstance -/
structure ClsI (K : PySem.W.Frag) (C : Addr) : Prop where
  cl : Cls K C
  ha : PySem.W.findIn K (.ref C) "__class__" = some (some (.builtin "object.__class__"))
  hn : PySem.W.specialIn K (.builtin "object.__class__") "__get__" = some (some (.builtin "getset_descriptor.__get__"))
  htk : PySem.W.takesIn K (.builtin "object.__class__") = some true
  hm : PySem.W.mroIn K C (.type "object") = some true
/-- the class of a value -/
def tyP (M : Mem) : PV → Option Value
  | .non => some (.type "NoneType")
  | .bl _ => some (.type "bool")
  | .int _ => some (.type "int")
  | .str _ => some (.type "str")
  | .tup _ => some (.type "tuple")
  | .lst _ => some (.type "list")
  | .scr _ => some (.type "list")
  | .obj C _ _ => some (.ref C)
  | .ref a => match M a with
    | some (.lst _) => some (.type "list")
    | some (.dic _ _) => some (.type "dict")
    | some (.ins C _ _) => some (.ref C)
    | _ => none
  | .ty _ => none
  | .exc _ _ _ => none
def tyC (K : PySem.W.Frag) : Value → Prop
  | .ref C => ClsI K C
  | _ => True
def clsP : PV → Option Value
  | .ty n => some (.type n)
  | .ref C => some (.ref C)
  | _ => none
theorem tyP_X {K : PySem.W.Frag} {G H : Hp} {M : Mem} {x : PV} {v : V} {t : Value} (h : tyP M x = some t) (c : tyC K t) (r : Rep K G x v) (w : Wf K M H G) : TyX K H v t := by
  have tupX : ∀ {a : Addr} {vs : List V}, SqT K H a vs → TyX K H (.ref a) (.type "tuple") := fun {a vs} h => by
    rcases h with (h | ⟨o, h⟩) | ⟨o, its, n, h1, h2, _⟩
    · exact .base (.tup h)
    · exact .fTuple h
    · exact .kTuple h1 h2
  have lstX : ∀ {a : Addr} {vs : List V}, SqL K H a vs → TyX K H (.ref a) (.type "list") := fun {a vs} h => by
    rcases h with (h | ⟨o, h⟩) | ⟨o, its, n, h1, h2, _⟩
    · exact .base (.lst h)
    · exact .base (.frz h)
    · exact .kList h1 h2
  cases x with
  | non => cases r; cases h; exact .base .non
  | bl b => cases r; cases h; exact .base (.bl _)
  | int b => cases r; cases h; exact .base (.int _)
  | str b => cases r; cases h; exact .base (.str _)
  | tup xs => cases h; obtain ⟨p, vs, rfl, h1, _⟩ := r; exact tupX (ext_t w.sub h1)
  | lst xs => cases h; obtain ⟨p, vs, rfl, h1, _⟩ := r; exact lstX (SqL.of (w.sub _ _ h1))
  | scr xs => cases h; obtain ⟨p, rfl, h1⟩ := r; exact lstX (ext_l w.sub h1)
  | obj C ns xs =>
    cases h
    obtain ⟨p, dx, vs, rfl, h1, _⟩ := r
    exact .base (.ins (w.sub _ _ h1) c.cl c.ha c.hn c.htk c.hm)
  | ref a =>
    cases r
    replace h : (match M a with
      | some (.lst _) => some (Value.type "list")
      | some (.dic _ _) => some (.type "dict")
      | some (.ins C _ _) => some (.ref C)
      | _ => none) = some t := h
    split at h
    · rename_i hm
      cases h
      obtain ⟨_, vs, h1, _⟩ := w.mem a _ hm
      exact lstX (SqL.of h1)
    · rename_i hm
      cases h
      obtain ⟨_, vs, h1, _⟩ := w.mem a _ hm
      exact .base (.dK h1)
    · rename_i hm
      cases h
      obtain ⟨_, dx, vs, h1, _⟩ := w.mem a _ hm
      exact .base (.ins h1 c.cl c.ha c.hn c.htk c.hm)
    · cases h
  | ty n => cases h
  | exc a d x => cases h
def cIsi (K : PySem.W.Frag) : FC := fun xs M Q => match xs with
  | [x, c] => ∃ t u b, tyP M x = some t ∧ tyC K t ∧ clsP c = some u ∧ PySem.W.kitOne K t u = some b ∧ Q (.bl b) M
  | _ => False
theorem isiP {K : PySem.W.Frag} {x c : PV} {M : Mem} {Q : PK} {t u : Value} {b : Bool} (h1 : tyP M x = some t) (h2 : tyC K t) (h3 : clsP c = some u) (h4 : PySem.W.kitOne K t u = some b) : cIsi K [x, c] M Q = Q (.bl b) M := propext
  ⟨fun ⟨_, _, _, g1, _, g3, g4, q⟩ => by rw [h1] at g1; cases g1; rw [h3] at g3; cases g3; rw [h4] at g4; cases g4; exact q, fun q => ⟨_, _, _, h1, h2, h3, h4, q⟩⟩
theorem cq_isi : CallQ X (.builtin "isinstance") (cIsi X.K) := by
  intro pins s σ H vs us Q I r ⟨xs, M, G, Q0, rx, w, q, L⟩
  unfold cIsi at q
  split at q
  · obtain ⟨v, u, rfl, r1, r2⟩ := reps2 rx
    obtain ⟨t, k, b, h1, h2, h3, h4, q⟩ := q
    rename_i x c
    have hk : ClsV u k := by
      cases c with
      | ty n => cases h3; cases r2; exact .ty _
      | ref C => cases h3; cases r2; exact .own _
      | _ => cases h3
    exact call_isi pins s σ H _ us Q I r ⟨v, u, t, k, b, rfl, hk, tyP_X h1 h2 r1 w, h4, give L w (x := .bl _) rfl q⟩
  · exact q.elim

theorem cq_isiK {K : PySem.W.Frag} (h : X.K = K) : CallQ X (.builtin "isinstance") (cIsi K) := by
  subst h; exact cq_isi
theorem qe_fldK {K : PySem.W.Frag} {f : Str} {e : Expr} {t : QT} (h : X.K = K) (he : QE X W e t) (hb : attributeBase e f X.env (eval e X.env) = eval e X.env := by rfl) : QE X W (.Attribute e f pos) (qFld K f t) := by
  subst h; exact qe_fld he hb
/-! ### lists that are written -/
def qApp (to te : QT) : QT := fun env M Q E => to env M (fun x M1 => ∃ a ys, x = .ref a ∧ M1 a = some (.lst ys) ∧ te env M1 (fun y M2 => ∃ zs, M2 a = some (.lst zs) ∧ zs.length < sizeLine ∧ Q .non (mset M2 a (.lst (zs ++ [y])))) E) E
theorem qe_app {o e : Expr} {to te : QT} {apos : Pos} (ho : QE X W o to) (he : QE X W e te) (hb : attributeBase o "append" X.env (eval o X.env) = eval o X.env := by rfl)
    (h2 : (((backTo pos (starEach [e] X.env)).all fun x => !x.fst) && (backToKw pos (keywordEach [] X.env)).all fun x => x.fst.isSome) = true := by rfl) (h3 : (apos.endLine == pos.line) = true := by rfl)
    (h4 : starEach [e] X.env = (false, eval e X.env) :: starEach [] X.env := by rfl) (h5 : (backTo pos (starEach [] X.env)).any (·.1) = false := by rfl) : QE X W (.Call (.Attribute o "append" apos) [e] [] pos) (qApp to te) :=
  (pe_bm PySem.F.plainAttrs_list PySem.F.slot_list_append PySem.F.type_list_append mt_append ho (pa_cons he pa_nil h4) hb (by rw [Bool.and_eq_true]; exact ⟨h2, rfl⟩) h3 h4 h5).imp fun σ H Q ⟨env, M, G, Q0, E0, S, q, L, LE⟩ => by
    refine ⟨env, M, G, _, E0, S, q, fun x M1 v H1 G1 e1 w1 r1 q1 => ?_, LE⟩
    obtain ⟨a, ys, rfl, hm, q1⟩ := q1
    cases r1
    obtain ⟨_, vs, h1, _⟩ := w1.mem a _ hm
    refine ⟨.inl ⟨rfl, _, SqL.of h1⟩, env, M1, G1, _, E0, S.to e1 w1, q1, fun y M2 u H2 G2 e2 w2 r2 q2 => ?_, LE.mono e1⟩
    obtain ⟨zs, hm2, hz, q2⟩ := q2
    obtain ⟨g2, ws, h2, r3⟩ := w2.mem a _ hm2
    refine ⟨a, ws, u, rfl, rfl, h2, by rw [← r3.length]; exact hz, ?_⟩
    exact L .non _ .non _ G2 (e1.trans e2) (w2.put g2 (mok_lst (r3.append (Reps.one r2)))) rfl q2
/-! ### names of the module -/
theorem qe_glob {x : Str} {v : V} {y : PV} {u : Value} (hm : X.mg x = some u) (r : RelV v u) (hr : ∀ G, Rep X.K G y v) (hg : Gl X x := by rfl) (hd : (x == ("__debug__" : Str)) = false := by decide) : QE X W (.Name x pos) (qC y) :=
  (pe_glob hg hm r hd).imp fun σ H Q ⟨env, M, G, Q0, E0, S, q, L, _⟩ => L y M v H G (Ext.refl G) S.wf (hr G) q
/-- a built-in class, a class of the text -/
theorem qe_ty {x : Str} {n : String} (hm : X.mg x = none) (hg : Gl X x := by rfl) (hv : bootBuiltins x = some (.type n) := by decide +kernel) (hn : x ≠ "__name__" := by decide) (hd : (x == ("__debug__" : Str)) = false := by decide) : QE X W (.Name x pos) (qC (.ty n)) :=
  qe_c (pe_bltn (v := .ty n) hg hm hv rfl hn hd) fun _ _ => rfl
theorem qe_cls {x : Str} {C : Addr} (hm : X.mg x = some (.ref C)) (hg : Gl X x := by rfl) (hd : (x == ("__debug__" : Str)) = false := by decide) : QE X W (.Name x pos) (qC (.ref C)) := qe_glob hm (v := .ref C) rfl (fun _ => rfl) hg hd
theorem qe_gint {x : Str} {i : Int} {t : Tok} (hm : X.mg x = some (.int i t)) (hg : Gl X x := by rfl) (hd : (x == ("__debug__" : Str)) = false := by decide) : QE X W (.Name x pos) (qC (.int i)) := qe_glob hm (v := .int i) ⟨_, rfl⟩ (fun _ => rfl) hg hd
end
/-! ### the end -/
def sLaw : SpQ := fun xs M Q _ => ∃ ns, xs = [.scr ns] ∧ ns.length ≤ 63 ∧ ∀ M', Q (.bl true) M'
/-- without the tables -/
def noT (H : Hp) : Hp := fun b => match H b with
  | some (.tbl _) => none
  | o => o
theorem noT_of {H : Hp} {b : Addr} {o : HO} (e : H b = some o) (h : ∀ ps, o ≠ .tbl ps) : noT H b = some o := by
  unfold noT
  rw [e]
  cases o <;> first | rfl | exact absurd rfl (h _)
theorem of_noT {H : Hp} {b : Addr} {o : HO} (e : noT H b = some o) : H b = some o ∧ ∀ ps, o ≠ .tbl ps := by
  unfold noT at e
  split at e
  · cases e
  · rename_i z
    exact ⟨e, fun ps q => z ps (by rw [e, q])⟩
theorem noT_tbl {H : Hp} {b : Addr} {ps : Array Value} (e : H b = some (.tbl ps)) : noT H b = none := by unfold noT; rw [e]
theorem sqL_noT {K : PySem.W.Frag} {H : Hp} {a : Addr} {vs : List V} (h : SqL K H a vs) : SqL K (noT H) a vs := by
  rcases h with (h | ⟨o, h⟩) | h
  · exact .inl (.inl (noT_of h (fun ps z => by cases z)))
  · exact .inl (.inr ⟨o, noT_of h (fun ps z => by cases z)⟩)
  · exact .inr h
theorem law_endT {K : PySem.W.Frag} {H : Hp} {a : Addr} {ns : List Int} (q : Str) (Ps : List Addr) (hT : ∀ P ∈ Ps, H P = some (.tbl #[])) (h : SqL K H a (ns.map V.int)) (sp : SpQ)
    (hsp : sp [.scr ns] (fun b => if b ∈ Ps then some (.tab q) else none) (fun x _ => x = .bl true) EF) : spQ K sp [.ref a] H (fun v _ => v = .bl true) fun _ _ _ => False := by
  have w : Wf K (fun b => if b ∈ Ps then some (.tab q) else none) H (noT H) := by
    refine ⟨fun b o e => (of_noT e).1, fun b m z => ?_, fun b ps e => (of_noT e).2 ps rfl⟩
    by_cases hb : b ∈ Ps
    · have z' : some (MO.tab q) = some m := (if_pos hb).symm.trans z
      cases z'
      exact ⟨noT_tbl (hT b hb), LamX.TabS.nil (hT b hb)⟩
    · have z' : none = some m := (if_neg hb).symm.trans z
      cases z'
  exact ⟨[.scr ns], _, noT H, fun x _ => x = .bl true, EF, Reps.one (x := .scr ns) ⟨a, rfl, sqL_noT h⟩, w, hsp, fun x M' v H' G' e w r q => by subst q; exact r, EF_lift⟩
theorem law_end {K : PySem.W.Frag} {H : Hp} {a : Addr} {ns : List Int} (hl : ns.length ≤ 63) (h : SqL K H a (ns.map V.int)) : spQ K sLaw [.ref a] H (fun v _ => v = .bl true) fun _ _ _ => False :=
  law_endT "" [] (fun _ z => nomatch z) h sLaw ⟨ns, rfl, hl, fun _ => rfl⟩
theorem law_CX {P : Program} {w : World} (H : Hp) (s : Shared) (e : Value) (s' : Shared) (h : L2.CX P w [] H s (fun _ _ _ => False) e s') : False := by
  obtain ⟨_, _, _, _, _, _, _, _, _, _, _, _, z⟩ := h
  exact z.elim
end TQ

namespace TQ
open PySem PySem.Spec PyProof.Rows L2
section
variable {X : Cx} {W : WX} {pos : Pos} {k n : Nat} {f C : Addr} {fd : FuncData} {ps ks : List Str} {sp : Sp} {x : Str} {p : Pos} {e : Expr} {es : List Expr} {kws : List Keyword}
theorem qe_makeD {t : QA} {dvs : List V} {dps : List PV} {ns : List Str} (Mk1 : Mk X.K C f) (F : FnOk X.prog X.w X.K X.mg X.base (L2.CX X.prog X.w) k f fd ps (spInit C ns)) (hr : Room (k + 1) X.A) (hm : X.mg x = some (.ref C)) (hb : ∃ ds, Vals dvs ds ∧ Binds X.K fd ps ds)
    (hp : ∀ G, Reps X.K G dps dvs) (tk : Takes X W) (ha : QPA X W (e :: es) t) (hg : Gl X x := by rfl)
    (hdb : (x == ("__debug__" : Str)) = false := by decide) (he : starEach (e :: es) X.env = (false, eval e X.env) :: starEach es X.env := by rfl) (hpl : (backTo pos (starEach es X.env)).any (·.1) = false := by rfl) :
    QE X W (.Call (.Name x p) (e :: es) [] pos) (qMake C ns dps t) := by
  obtain ⟨ds, hd, hb⟩ := hb
  exact qe_make Mk1 F hr hm hb hd hp tk ha hg hdb he hpl
/-! ### by keywords -/
abbrev QPK (X : Cx) (W : WX) (kws : List Keyword) (t : QA) : Prop := L2.PK X kws (tieA X.K W t)
theorem _root_.L2.PK.imp {X : Cx} {e : List Keyword} {t t' : TA} (h : L2.PK X e t) (f : ∀ σ H Q, t' σ H Q → t σ H Q) : L2.PK X e t' := ⟨fun pos pins s σ H Q I q => h.run pos pins s σ H Q I (f σ H Q q)⟩
theorem qk_nil : QPK X W [] qNil := pk_nil.imp fun σ H Q ⟨env, M, G, Q0, E0, S, q, L, LE⟩ => L [] M [] H G (Ext.refl G) S.wf Reps.nil q
theorem qk_cons {nm : Option Str} {kpos : Pos} {t : QT} {r : QA} (h : QE X W e t) (k : QPK X W kws r) : QPK X W (⟨nm, e, kpos⟩ :: kws) (qCons t r) :=
  (pk_cons h k).imp fun σ H Q ⟨env, M, G, Q0, E0, S, q, L, LE⟩ => by
    refine ⟨env, M, G, _, E0, S, q, fun x M1 v H1 G1 e1 w1 r1 q1 => ?_, LE⟩
    refine ⟨env, M1, G1, _, E0, S.to e1 w1, q1, fun xs M2 vs H2 G2 e2 w2 r2 q2 => ?_, LE.mono e1⟩
    exact L (x :: xs) M2 (v :: vs) H2 G2 (e1.trans e2) w2 (Reps.cons (Rep.mono e2 x v r1) r2) q2
theorem run_makeK {g : List Value → List Value → List Value} {gV : List V → List V → List V} {pins : List (Addr × Obj)} {σ : L2.St} {H : Hp} {sh : Shared} {Q : VK} {us ws : List Value} {vs zs : List V} (Mk1 : Mk X.K C f)
    (F : FnOk X.prog X.w X.K X.mg X.base (L2.CX X.prog X.w) k f fd ps sp) (hr : Room (k + 1) X.A) (hb : KBn X.K fd ps (n + 1) ks g gV) (tk : Takes X W) (I : Inv X pins σ H sh) (r : Vals vs us) (rz : Vals zs ws) (l1 : vs.length = n) (l2 : zs.length = ks.length)
    (h : ∀ y dx, H y = none → H dx = none → dx ≠ y → sp (gV (.ref y :: vs) zs) (upd (upd H dx (.own y)) y (.ins C dx [])) (fun v H2 => v = .non ∧ Q (.ref y) H2) (WE W σ)) :
    wpAny (model X.prog X.w) X.A (call (.ref C) us (ks.zip ws)) (EP X pins σ Q) X.xe sh := by
  have q0 := h (sh.heap.objs.size + 1) sh.heap.objs.size (I.hok.fresh (Nat.le_succ _)) (I.hok.fresh (Nat.le_refl _)) (Nat.ne_of_lt (Nat.lt_succ_self _))
  have J := Inv.made (C := C) I
  have r1 : Vals (V.ref (sh.heap.objs.size + 1) :: vs) (Value.ref (sh.heap.objs.size + 1) :: us) := .cons rfl r
  have e1 : (Value.ref (sh.heap.objs.size + 1) :: us).length = n + 1 := r1.length ▸ congrArg Nat.succ l1
  have e2 : ws.length = ks.length := rz.length ▸ l2
  refine wpAny_call (make_map (f := f) I.kIn Mk1.makes Mk1.init (beq_iff_eq.mp Mk1.fn) (codeAny_mono (F.run _ X.stack _ _ ⟨Value.ref (sh.heap.objs.size + 1) :: us, ks.zip ws⟩ _ _ _ _ (hr.make C us (ks.zip ws)) (J.env0.make C us (ks.zip ws))
    (hb.to _ (_ :: us) ws J.kIn e1 e2) (hb.rel r1 rz) q0) fun r s' hq => ?_))
  match r, hq with
  | .error e, hq => exact passAt tk σ pins _ _ e s' J hq
  | .ok (.ret u), hq =>
    obtain ⟨v, H', I3, rv, ev, q3⟩ := J.after hq
    subst ev
    exact ⟨rv, V.ref (sh.heap.objs.size + 1), H', I3, rfl, q3⟩
  | .ok .next, hq => exact hq.elim
  | .ok .brk, hq => exact hq.elim
  | .ok .cont, hq => exact hq.elim
/-- C(e, .., k = v): the keywords' values put by gP among the positional ones (defaults too) -/
def qMakeK (C : Addr) (ns : List Str) (n m : Nat) (gP : List PV → List PV → List PV) (t tk : QA) : QT := fun env M Q E => t env M (fun xs M1 => tk env M1 (fun zs M2 => xs.length = n ∧ zs.length = m ∧ (gP xs zs).length = ns.length ∧ Q (.obj C ns (gP xs zs)) M2) E) E
theorem qe_makeK {t tk : QA} {ns : List Str} {gP : List PV → List PV → List PV} {gv : List V → List V → List V} (Mk1 : Mk X.K C f) (F : FnOk X.prog X.w X.K X.mg X.base (L2.CX X.prog X.w) k f fd ps (spInit C ns)) (hr : Room (k + 1) X.A) (hm : X.mg x = some (.ref C))
    (hb : ∃ g, KBn X.K fd ps (n + 1) ks g fun vs zs => vs.take 1 ++ gv (vs.drop 1) zs) (hp : ∀ G xs zs vs us, Reps X.K G xs vs → Reps X.K G zs us → Reps X.K G (gP xs zs) (gv vs us)) (tk' : Takes X W) (ha : QPA X W (e :: es) t) (hkw : QPK X W kws tk) (hg : Gl X x := by rfl)
    (hall : (backToKw pos (keywordEach kws X.env)).all (·.1.isSome) = true := by rfl) (hks : (backToKw pos (keywordEach kws X.env)).filterMap (·.1) = ks := by rfl)
    (hdb : (x == ("__debug__" : Str)) = false := by decide) (he : starEach (e :: es) X.env = (false, eval e X.env) :: starEach es X.env := by rfl)
    (hpl : ((backTo pos (starEach (e :: es) X.env)).any (·.1) || (backToKw pos (keywordEach kws X.env)).any (·.1.isNone)) = false := by rfl) :
    QE X W (.Call (.Name x p) (e :: es) kws pos) (qMakeK C ns n ks.length gP t tk) := by
  obtain ⟨g, hb⟩ := hb
  refine ⟨fun pins sh σ H Q I ⟨env, M, G, Q0, E0, S, q, L, LE⟩ => wpAny_Call_Name_kw (ld_glob I hg hm (PySem.W.callWith_KW (h₀ := X.base) I.ok.mod.kin Mk1.kp hall (thn (ha.run pos pins sh σ H
    (fun vs H1 => ∃ xs M1 G1, Ext G G1 ∧ Wf X.K M1 H1 G1 ∧ Reps X.K G1 xs vs ∧ tk env M1 (fun zs M2 => xs.length = n ∧ zs.length = ks.length ∧ (gP xs zs).length = ns.length ∧ Q0 (.obj C ns (gP xs zs)) M2) E0) I ?_) fun us s1 ⟨vs, H1, I1, r, q⟩ => ?_) hpl he) hdb)⟩
  · exact ⟨env, M, G, _, E0, S, q, fun xs M1 vs H1 G1 e1 w1 r1 q1 => ⟨xs, M1, G1, e1, w1, r1, q1⟩, LE⟩
  · obtain ⟨xs, M1, G1, e1, w1, r1, q⟩ := q
    refine thn (hkw.run pos pins s1 σ H1 (fun us H2 => ∃ zs M2 G2, Ext G1 G2 ∧ Wf X.K M2 H2 G2 ∧ Reps X.K G2 zs us ∧ xs.length = n ∧ zs.length = ks.length ∧ (gP xs zs).length = ns.length ∧ Q0 (.obj C ns (gP xs zs)) M2) I1 ?_) fun ws s2 ⟨zs', H2, I2, rz, q2⟩ => ⟨I2.kIn, ?_⟩
    · exact ⟨env, M1, G1, _, E0, S.to e1 w1, q, fun zs M2 us H2 G2 e2 w2 r2 q2 => ⟨zs, M2, G2, e2, w2, r2, q2⟩, LE.mono e1⟩
    · obtain ⟨zs, M2, G2, e2, w2, r2, l1, l2, l3, q2⟩ := q2
      rw [hks]
      refine run_makeK Mk1 F hr hb tk' I2 r rz (by rw [← r1.length]; exact l1) (by rw [← r2.length]; exact l2) fun y dx ny nd ne => ⟨y, dx, gv vs zs', rfl, ?_, upd_same, rfl, ?_⟩
      · rw [← l3, (hp G2 _ _ _ _ (Reps.mono e2 _ _ r1) r2).length]
      · rw [upd_upd]
        have w3 := w2.newH (o := .own y) nd
        have n2 : upd H2 dx (.own y) y = none := by rw [upd_ne ne.symm]; exact ny
        exact L (.obj C ns (gP xs zs)) M2 _ _ _ ((e1.trans e2).trans (Ext.new (w3.free n2))) (w3.newG n2) ⟨y, dx, gv vs zs', rfl, upd_same, Reps.mono (Ext.new (w3.free n2)) _ _ (hp G2 _ _ _ _ (Reps.mono e2 _ _ r1) r2)⟩ q2
end
/-! ### __init__ that stores -/
section
variable {X : Cx}
/-- self.f = a parameter, from the left -/
theorem putF_zip {ns : List Str} {us : List V} {f : Str} {v : V} (hf : f ∉ ns) (hl : ns.length = us.length) : putF f v (ns.zip us) = (ns ++ [f]).zip (us ++ [v]) := by
  induction ns generalizing us with
  | nil => cases us with
    | nil => rfl
    | cons _ _ => cases hl
  | cons n ns ih => cases us with
    | nil => cases hl
    | cons u us =>
      have h1 : ¬ n = f := fun e => hf (by rw [e]; exact List.mem_cons_self)
      have h2 : f ∉ ns := fun z => hf (List.mem_cons_of_mem _ z)
      rw [List.zip_cons_cons]
      show (if n = f then (n, v) :: ns.zip us else (n, u) :: putF f v (ns.zip us)) = _
      rw [if_neg h1, ih h2 (by simpa using hl)]
      rfl
end
/-! ### isinstance of own classes -/
theorem kit_own {K : PySem.W.Frag} {C D : Addr} {b : Bool} (hs : PySem.W.subIn K (.ref C) (.ref D) = some b) (hc : PySem.W.isClsIn K D = true) (ht : PySem.W.typeIn K (.ref D) = some (.type "type")) (hn : b = true ∨ C ≠ D) : PySem.W.kitOne K (.ref C) (.ref D) = some b := by
  unfold PySem.W.kitOne PySem.W.kitCls
  have hc' : (PySem.W.clsIn K D).isSome = true := hc
  by_cases e : C = D
  · subst e
    rcases hn with rfl | hn
    · rw [if_pos (by simp)]
    · exact absurd rfl hn
  · rw [if_neg (by simpa using e)]
    simp only [hc', ht, Bool.true_and, beq_self_eq_true, if_true]
    exact hs
theorem kit_ownT {K : PySem.W.Frag} {C : Addr} {T : String} {b : Bool} (hs : PySem.W.subIn K (.ref C) (.type T) = some b) (hm : PySem.W.kitMeta T = true := by decide +kernel) : PySem.W.kitOne K (.ref C) (.type T) = some b := by
  unfold PySem.W.kitOne PySem.W.kitCls
  rw [if_neg (by intro h; cases (beq_iff_eq.mp h))]
  simp only [hm, if_true]
  exact hs
theorem kit_tyO {K : PySem.W.Frag} {D : Addr} {T : String} {l : List Value} (hl : PySem.fastBuiltinMro T = some l) (hn : l.contains (.ref D) = false) (hc : PySem.W.isClsIn K D = true) (ht : PySem.W.typeIn K (.ref D) = some (.type "type")) : PySem.W.kitOne K (.type T) (.ref D) = some false := by
  unfold PySem.W.kitOne PySem.W.kitCls
  have hc' : (PySem.W.clsIn K D).isSome = true := hc
  rw [if_neg (by intro h; cases (beq_iff_eq.mp h))]
  simp only [hc', ht, Bool.true_and, beq_self_eq_true, if_true]
  show (PySem.fastBuiltinMro T).map _ = _
  rw [hl]
  show some (l.contains (.ref D)) = some false
  rw [hn]
end TQ

/-! Whole numbers, powers of ten, texts of figures. -/
namespace TM
open PySem PySem.Spec PyProof.Rows L2 TQ
theorem bEq_int (i j : Int) (M : Mem) (Q : PK) : bEqP false (.int i) (.int j) M Q = Q (.bl (decide (i = j))) M := rfl
theorem bNe_int (i j : Int) (M : Mem) (Q : PK) : bEqP true (.int i) (.int j) M Q = Q (.bl (!decide (i = j))) M := rfl
theorem bEq_str (i j : Str) (M : Mem) (Q : PK) : bEqP false (.str i) (.str j) M Q = Q (.bl (decide (i = j))) M := rfl
theorem bNe_str (i j : Str) (M : Mem) (Q : PK) : bEqP true (.str i) (.str j) M Q = Q (.bl (!decide (i = j))) M := rfl
theorem bEq_bl (i j : Bool) (M : Mem) (Q : PK) : bEqP false (.bl i) (.bl j) M Q = Q (.bl (decide (i = j))) M := rfl
theorem bNe_bl (i j : Bool) (M : Mem) (Q : PK) : bEqP true (.bl i) (.bl j) M Q = Q (.bl (!decide (i = j))) M := rfl
section
variable {K : PySem.W.Frag} {M : Mem} {Q : PK}
theorem isi_ii {i : Int} : cIsi K [.int i, .ty "int"] M Q = Q (.bl true) M := isiP rfl trivial rfl rfl
theorem isi_ib {i : Int} : cIsi K [.int i, .ty "bool"] M Q = Q (.bl false) M := isiP rfl trivial rfl rfl
theorem isi_is {i : Int} : cIsi K [.int i, .ty "str"] M Q = Q (.bl false) M := isiP rfl trivial rfl rfl
theorem isi_it {i : Int} : cIsi K [.int i, .ty "tuple"] M Q = Q (.bl false) M := isiP rfl trivial rfl rfl
theorem isi_bi {i : Bool} : cIsi K [.bl i, .ty "int"] M Q = Q (.bl true) M := isiP rfl trivial rfl rfl
theorem isi_bb {i : Bool} : cIsi K [.bl i, .ty "bool"] M Q = Q (.bl true) M := isiP rfl trivial rfl rfl
theorem isi_ss {i : Str} : cIsi K [.str i, .ty "str"] M Q = Q (.bl true) M := isiP rfl trivial rfl rfl
theorem isi_st {i : Str} : cIsi K [.str i, .ty "tuple"] M Q = Q (.bl false) M := isiP rfl trivial rfl rfl
theorem isi_tt {i : List PV} : cIsi K [.tup i, .ty "tuple"] M Q = Q (.bl true) M := isiP rfl trivial rfl rfl
theorem isi_nt : cIsi K [.non, .ty "tuple"] M Q = Q (.bl false) M := isiP rfl trivial rfl rfl
end
theorem atI_in {α : Type} {xs : List α} {i : Int} (h0 : 0 ≤ i) (h1 : i < xs.length) : atI xs i = xs[i.toNat]? := by
  unfold atI ixN
  rw [if_pos h0, if_pos h1]
  rfl
theorem atI_mem {α : Type} {xs : List α} {i : Int} (h0 : 0 ≤ i) (h1 : i < xs.length) : ∃ v, v ∈ xs ∧ atI xs i = some v := by
  have h : i.toNat < xs.length := by omega
  exact ⟨xs[i.toNat], List.getElem_mem h, by rw [atI_in h0 h1, List.getElem?_eq_getElem h]⟩
theorem bIx_lst {xs : List PV} {i : Int} {M : Mem} {Q : PK} : bIx (.lst xs) (.int i) M Q = ∃ v, atI xs i = some v ∧ Q v M := rfl
theorem bIx_scr {xs : List Int} {i : Int} {M : Mem} {Q : PK} : bIx (.scr xs) (.int i) M Q = ∃ v, atI (xs.map PV.int) i = some v ∧ Q v M := rfl
theorem bIx_tup {xs : List PV} {i : Int} {M : Mem} {Q : PK} : bIx (.tup xs) (.int i) M Q = ∃ v, atI xs i = some v ∧ Q v M := rfl
theorem bIx_mset {a : Addr} {xs : List PV} {i : Int} {M : Mem} {Q : PK} : bIx (.ref a) (.int i) (mset M a (.lst xs)) Q = ∃ v, atI xs i = some v ∧ Q v (mset M a (.lst xs)) := by
  show (match ml (mset M a (.lst xs) a) with
    | some xs => ∃ v, atI xs i = some v ∧ Q v _
    | none => False) = _
  rw [mset_same]
  rfl
theorem sqA_scr {M : Mem} {ns : List Int} : sqA M (.scr ns) = some (ns.map PV.int) := rfl
theorem sqA_lst {M : Mem} {xs : List PV} : sqA M (.lst xs) = some xs := rfl
theorem sqA_mset {M : Mem} {a : Addr} {xs : List PV} : sqA (mset M a (.lst xs)) (.ref a) = some xs := by
  show ml (mset M a (.lst xs) a) = _
  rw [mset_same]
  rfl
theorem len_scr {ns : List Int} {M : Mem} {Q : PK} : len1 (.scr ns) M Q = Q (.int (ns.map PV.int).length) M := rfl
theorem len_lst {xs : List PV} {M : Mem} {Q : PK} : len1 (.lst xs) M Q = Q (.int xs.length) M := rfl
theorem len_tup {xs : List PV} {M : Mem} {Q : PK} : len1 (.tup xs) M Q = Q (.int xs.length) M := rfl
theorem len_mset {a : Addr} {xs : List PV} {M : Mem} {Q : PK} : len1 (.ref a) (mset M a (.lst xs)) Q = Q (.int xs.length) (mset M a (.lst xs)) := by
  show (match sqA (mset M a (.lst xs)) (.ref a) with
    | some ys => Q (.int ys.length) (mset M a (.lst xs))
    | none => False) = _
  rw [sqA_mset]
theorem ten_pos (n : Nat) : 0 < 10 ^ n := Nat.pow_pos (by decide)
theorem pow10_le {m n : Nat} (h : m ≤ n) : 10 ^ m ≤ 10 ^ n := Nat.pow_le_pow_right (by decide) h
theorem pow10_lt {m n : Nat} (h : m < n) : 10 ^ m < 10 ^ n := Nat.pow_lt_pow_right (by decide) h
theorem pow10_lt_inv {m n : Nat} (h : 10 ^ m < 10 ^ n) : m < n := by
  rcases Nat.lt_or_ge m n with z | z
  · exact z
  · exact absurd (pow10_le z) (by omega)
theorem pow10_16 (n : Nat) : 10 ^ n < 2 ^ (4 * n + 1) := by
  have h1 : 10 ^ n ≤ (2 ^ 4) ^ n := Nat.pow_le_pow_left (by decide) n
  rw [← Nat.pow_mul] at h1
  exact Nat.lt_of_le_of_lt h1 (Nat.pow_lt_pow_right (by decide) (by omega))
theorem pow10_lt_2 {a n : Nat} (h : a < 10 ^ n) : a < 2 ^ (4 * n + 1) := Nat.lt_trans h (pow10_16 n)
theorem two_le {m n : Nat} (h : m ≤ n) : 2 ^ m ≤ 2 ^ n := Nat.pow_le_pow_right (by decide) h
theorem cast10 (n : Nat) : ((10 ^ n : Nat) : Int) = (10 : Int) ^ n := Int.natCast_pow 10 n
theorem mul_ok {a b : Int} {m n : Nat} (ha : a.natAbs < 2 ^ m) (hb : b.natAbs < 2 ^ n) (h : m + n ≤ 134217728) : IntMulOk a b := mulOk_of_bits (intBits_le ha) (intBits_le hb) h
theorem mul_ok_nat {a b m n : Nat} (ha : a < 2 ^ m) (hb : b < 2 ^ n) (h : m + n ≤ 134217728) : IntMulOk (a : Int) (b : Int) := mul_ok (by simpa using ha) (by simpa using hb) h
theorem mul_ok_l {a b : Int} (h1 : -(2 ^ 64) < a) (h2 : a < 2 ^ 64) : IntMulOk a b := .of_left (intBits_le_64 h1 h2)
theorem mul_ok_r {a b : Int} (h1 : -(2 ^ 64) < b) (h2 : b < 2 ^ 64) : IntMulOk a b := .of_right (intBits_le_64 h1 h2)
theorem log2_lt_of {j n : Nat} (h : j < 2 ^ n) (hn : n ≤ 8000) : j.log2 < 9000 := by
  rcases Nat.eq_zero_or_pos j with z | z
  · subst z; decide
  · have := (Nat.log2_lt (by omega : j ≠ 0) (k := n)).mpr h
    omega
theorem divw {i j : Int} {n : Nat} (hj : 0 < j) (h : j.natAbs < 2 ^ n) (hn : n ≤ 8000 := by decide) : CDivW i j := ⟨hj, log2_lt_of h hn⟩
theorem divp {i j : Int} {n : Nat} (hj : 0 < j) (h : j.natAbs < 2 ^ n) (hn : n ≤ 8000 := by decide) : CDivP i j := ⟨hj, PyProof.noPylong_of_log2 (log2_lt_of h hn)⟩
theorem nat_abs_lt {n : Nat} {a : Int} (h1 : -(2 : Int) ^ n < a) (h2 : a < (2 : Int) ^ n) : a.natAbs < 2 ^ n := by
  have : ((2 ^ n : Nat) : Int) = (2 : Int) ^ n := Int.natCast_pow 2 n
  omega

/-! ### how many figures -/
def ndF : Nat → Nat → Nat
  | 0, _ => 1
  | k + 1, n => if n < 10 then 1 else 1 + ndF k (n / 10)
def nd (n : Nat) : Nat := ndF n n
theorem ndF_pos : ∀ k n, 1 ≤ ndF k n
  | 0, _ => Nat.le_refl _
  | k + 1, n => by unfold ndF; split <;> omega
theorem ndF_lt : ∀ k n, n ≤ k → n < 10 ^ ndF k n
  | 0, n, h => by have : n = 0 := by omega
                  subst this; decide
  | k + 1, n, h => by
    unfold ndF
    split
    · simpa using ‹n < 10›
    · have ih := ndF_lt k (n / 10) (by omega)
      rw [Nat.add_comm, Nat.pow_succ]
      omega
theorem ndF_le : ∀ k n, n ≤ k → 1 ≤ n → 10 ^ (ndF k n - 1) ≤ n
  | 0, n, h, h1 => by omega
  | k + 1, n, h, h1 => by
    unfold ndF
    split
    · simpa using h1
    · have ih := ndF_le k (n / 10) (by omega) (by omega)
      have hp := ndF_pos k (n / 10)
      have e : 1 + ndF k (n / 10) - 1 = (ndF k (n / 10) - 1) + 1 := by omega
      rw [e, Nat.pow_succ]
      omega
theorem nd_pos (n : Nat) : 1 ≤ nd n := ndF_pos n n
theorem nd_lt (n : Nat) : n < 10 ^ nd n := ndF_lt n n (Nat.le_refl _)
theorem nd_le {n : Nat} (h : 1 ≤ n) : 10 ^ (nd n - 1) ≤ n := ndF_le n n (Nat.le_refl _) h
theorem nd_of {n c : Nat} (h0 : 1 ≤ c) (h1 : 10 ^ (c - 1) ≤ n) (h2 : n < 10 ^ c) : nd n = c := by
  have hp : 1 ≤ n := Nat.le_trans (ten_pos _) h1
  have a := pow10_lt_inv (Nat.lt_of_le_of_lt (nd_le hp) h2)
  have b := pow10_lt_inv (Nat.lt_of_le_of_lt h1 (nd_lt n))
  have := nd_pos n
  omega
theorem nd_zero : nd 0 = 1 := rfl
theorem nd_le_of {n c : Nat} (h0 : 1 ≤ c) (h : n < 10 ^ c) : nd n ≤ c := by
  rcases Nat.eq_zero_or_pos n with z | z
  · subst z; rw [nd_zero]; exact h0
  · have := pow10_lt_inv (Nat.lt_of_le_of_lt (nd_le z) h)
    omega
theorem nd_ge_of {n c : Nat} (h : 10 ^ c ≤ n) : c + 1 ≤ nd n := by
  have := pow10_lt_inv (Nat.lt_of_le_of_lt h (nd_lt n))
  omega
theorem guess {m b : Nat} (h : m * 100000 ≤ b * 30102) : 10 ^ m ≤ 2 ^ b := by
  have key : 10 ^ 30102 ≤ 2 ^ 100000 := by decide +kernel
  rcases Nat.lt_or_ge (2 ^ b) (10 ^ m) with z | z
  · exfalso
    have h1 : (2 ^ b) ^ 30102 < (10 ^ m) ^ 30102 := Nat.pow_lt_pow_left z (by decide)
    have h2 : (10 ^ m) ^ 30102 = (10 ^ 30102) ^ m := by rw [← Nat.pow_mul, ← Nat.pow_mul, Nat.mul_comm]
    have h4 : (2 ^ 100000) ^ m ≤ (2 ^ b) ^ 30102 := by
      rw [← Nat.pow_mul, ← Nat.pow_mul]
      exact two_le (by omega)
    rw [h2] at h1
    revert key h1 h4
    generalize 10 ^ 30102 = A
    generalize 2 ^ 100000 = B
    intro key h1 h4
    have h3 : A ^ m ≤ B ^ m := Nat.pow_le_pow_left key m
    exact absurd (Nat.lt_of_lt_of_le h1 (Nat.le_trans h3 h4)) (Nat.lt_irrefl _)
  · exact z

/-! ### texts of figures -/
theorem fold_app : ∀ (l : List (Array Nat)) (acc : Array Nat), (l.foldl (· ++ ·) acc).toList = acc.toList ++ (l.map Array.toList).flatten
  | [], acc => by simp
  | x :: l, acc => by rw [List.foldl_cons, fold_app l]; simp [List.append_assoc]
theorem rep_flat {α : Type} (a : α) : ∀ n : Nat, (List.replicate n [a]).flatten = List.replicate n a
  | 0 => rfl
  | n + 1 => by rw [List.replicate_succ, List.flatten_cons, rep_flat a n]; rfl
theorem repS_list (x : Str) (n : Int) : (repS x n).cps.toList = (List.replicate n.toNat x.cps.toList).flatten := by
  unfold repS
  rw [fold_app]
  simp
theorem repS_zeros (n : Int) : (repS ("0" : Str) n).cps.toList = List.replicate n.toNat 48 := by
  rw [repS_list]
  exact rep_flat 48 _
theorem dv_app : ∀ (l : List Nat) (acc : Nat), l.foldl (fun acc c => acc * 10 + (c - 48)) acc = acc * 10 ^ l.length + NumText.digitsVal l
  | [], acc => by simp [NumText.digitsVal]
  | c :: l, acc => by
    unfold NumText.digitsVal
    rw [List.foldl_cons, List.foldl_cons, dv_app l, dv_app l (0 * 10 + (c - 48)), List.length_cons, Nat.pow_succ, Nat.add_mul, Nat.mul_assoc, Nat.mul_comm 10]
    simp [Nat.add_assoc]
theorem dv_zeros : ∀ (n acc : Nat), (List.replicate n 48).foldl (fun acc c => acc * 10 + (c - 48)) acc = acc * 10 ^ n
  | 0, acc => by simp
  | n + 1, acc => by rw [List.replicate_succ, List.foldl_cons, dv_zeros n, Nat.pow_succ]; simp [Nat.mul_assoc, Nat.mul_comm 10]
theorem one_zero_list (n : Int) : (("1" : Str) ++ repS ("0" : Str) n).cps.toList = 49 :: List.replicate n.toNat 48 := by
  show ((("1" : Str).cps ++ (repS ("0" : Str) n).cps).toList = _)
  rw [Array.toList_append, repS_zeros]
  rfl
theorem one_zero_len (n : Int) : (("1" : Str) ++ repS ("0" : Str) n).length = n.toNat + 1 := by
  have := congrArg List.length (one_zero_list n)
  rw [Array.length_toList, List.length_cons, List.length_replicate] at this
  exact this
theorem ten_text {n : Int} (h : n ≤ 4000) : PySem.intText? (("1" : Str) ++ repS ("0" : Str) n) = some ((10 ^ n.toNat : Nat) : Int) := by
  rw [PySem.intText_digits (x := ("1" : Str) ++ repS ("0" : Str) n)]
  · rw [one_zero_list]
    unfold NumText.digitsVal
    rw [List.foldl_cons, dv_zeros]
    simp
  · rw [one_zero_list]
    intro c hc
    rcases List.mem_cons.mp hc with rfl | hc
    · decide
    · have := (List.mem_replicate.mp hc).2
      omega
  · rw [one_zero_list]
    exact List.cons_ne_nil _ _
  · rw [one_zero_len]
    omega
end TM

/-! Readings run from the head on; what comes behind lies in boxes, so that nothing looks at it too early. -/
namespace TN
open PySem PySem.Spec PyProof.Rows L2 TQ TM
class Box (α : Sort u) where
  v : α
theorem box_v {α : Sort u} (a : α) : (Box.mk a).v = a := rfl
def iteP (c : Prop) [Decidable c] [A : Box Prop] [B : Box Prop] : Prop := if c then A.v else B.v
def iteB (b : Bool) [A : Box Prop] [B : Box Prop] : Prop := if b = true then A.v else B.v
def blP (x : PV) (A : Bool → Prop) : Prop := ∃ k, x = .bl k ∧ A k
def vP (o : Option (Option PV)) (M : Mem) [Q : Box PK] : Prop := ∃ x, o = some (some x) ∧ Q.v x M
def ixP (o : Option PV) (M : Mem) [Q : Box PK] : Prop := ∃ x, o = some x ∧ Q.v x M
def nxP (env : Sl) (M : Mem) [Q : Box (Sl → Mem → Prop)] : Prop := Q.v env M
def callP (s : SpQ) (xs : List PV) (M : Mem) [Q : Box PK] [E : Box EK] : Prop := s xs M Q.v E.v
def fldB (K : PySem.W.Frag) (f : Str) (x : PV) (M : Mem) [Q : Box PK] : Prop := fldP K f x M Q.v
def mthB (C : Addr) (m : Str) (x : PV) (M : Mem) [R : Box Prop] : Prop := mthP C m x M R.v
def isiB (K : PySem.W.Frag) (x c : PV) (M : Mem) [Q : Box PK] : Prop := cIsi K [x, c] M Q.v
def app1 (x : PV) (M : Mem) [R : Box Prop] : Prop := ∃ a ys, x = .ref a ∧ M a = some (.lst ys) ∧ R.v
def app2 (x y : PV) (M : Mem) [Q : Box PK] : Prop := ∃ a zs, x = .ref a ∧ M a = some (.lst zs) ∧ zs.length < sizeLine ∧ Q.v .non (mset M a (.lst (zs ++ [y])))
def txtP (a : Str) (M : Mem) [Q : Box PK] : Prop := ∃ n, PySem.intText? a = some n ∧ a.length ≤ 640 ∧ Q.v (.int n) M
def truP (x : PV) (M : Mem) [A : Box (Bool → Prop)] : Prop := ∃ b, trP M x = some b ∧ A.v b
def lstP (xs : List PV) (M : Mem) [Q : Box PK] : Prop := ∀ p, M p = none → Q.v (.ref p) (mset M p (.lst xs))
section
variable {c p : Prop} [Decidable c] [Decidable p] {A B : Prop}
theorem iteP_of {A B : Box Prop} (h1 : c → A.v) (h2 : ¬ c → B.v) : @iteP c _ A B := ite2 h1 h2
theorem iteP_t {A B : Box Prop} (h : c) (h1 : A.v) : @iteP c _ A B := iteP_of (fun _ => h1) fun z => absurd h z
theorem iteP_f {A B : Box Prop} (h : ¬ c) (h1 : B.v) : @iteP c _ A B := iteP_of (fun z => absurd z h) fun _ => h1
theorem iteP_true {d : Decidable True} {A B : Box Prop} : @iteP True d A B = A.v := if_pos trivial
theorem iteP_false {d : Decidable False} {A B : Box Prop} : @iteP False d A B = B.v := if_neg id
theorem iteB_dec {A B : Box Prop} : @iteB (decide p) A B = @iteP p _ A B := by
  unfold iteB iteP
  by_cases h : p <;> simp [h]
theorem iteB_t {A B : Box Prop} : @iteB true A B = A.v := if_pos rfl
theorem iteB_f {A B : Box Prop} : @iteB false A B = B.v := if_neg (by decide)
theorem iteB_not {b : Bool} {A B : Box Prop} : @iteB (!b) A B = @iteB b B A := by cases b <;> rfl
theorem iteB_and {a b : Bool} {A B : Box Prop} : @iteB (a && b) A B = @iteB a ⟨@iteB b A B⟩ B := by cases a <;> rfl
theorem iteB_or {a b : Bool} {A B : Box Prop} : @iteB (a || b) A B = @iteB a A ⟨@iteB b A B⟩ := by cases a <;> rfl
theorem iteB_beq {α : Type} [DecidableEq α] {x y : α} {A B : Box Prop} : @iteB (x == y) A B = @iteP (x = y) _ A B := by
  unfold iteB iteP
  by_cases h : x = y <;> simp [h]
theorem iteB_bne {α : Type} [DecidableEq α] {x y : α} {A B : Box Prop} : @iteB (x != y) A B = @iteP (x = y) _ B A := by
  unfold iteB iteP
  by_cases h : x = y <;> simp [h]
theorem iteB_of {b : Bool} {A B : Box Prop} (h1 : b = true → A.v) (h2 : b = false → B.v) : @iteB b A B := by cases b; exact h2 rfl; exact h1 rfl
theorem iteB_pos {b : Bool} {A B : Box Prop} (h : b = true) (h1 : A.v) : @iteB b A B := by subst h; exact h1
theorem iteB_neg {b : Bool} {A B : Box Prop} (h : b = false) (h1 : B.v) : @iteB b A B := by subst h; exact h1
theorem blP_bl {k : Bool} {A : Bool → Prop} : blP (.bl k) A = A k := propext ⟨fun ⟨_, h, q⟩ => by cases h; exact q, fun q => ⟨_, rfl, q⟩⟩
end
section
variable {K : PySem.W.Frag} {env : Sl} {M : Mem} {Q : PK} {E : EK} {D : QEnds} {x y : PV} {xs : List PV}
theorem vP_some {Q : Box PK} : @vP (some (some x)) M Q = Q.v x M := propext ⟨fun ⟨_, h, q⟩ => by cases h; exact q, fun q => ⟨_, rfl, q⟩⟩
theorem ixP_some {Q : Box PK} : @ixP (some x) M Q = Q.v x M := propext ⟨fun ⟨_, h, q⟩ => by cases h; exact q, fun q => ⟨_, rfl, q⟩⟩
theorem nxP_eq {Q : Box (Sl → Mem → Prop)} : @nxP env M Q = Q.v env M := rfl
theorem dec_t {d : Decidable True} : @decide True d = true := decide_eq_true trivial
theorem dec_f {d : Decidable False} : @decide False d = false := decide_eq_false id
theorem c_0 : ((0 : Nat) : Int) = 0 := rfl
theorem c_1 : ((1 : Nat) : Int) = 1 := rfl
theorem c_2 : ((2 : Nat) : Int) = 2 := rfl
theorem c_3 : ((3 : Nat) : Int) = 3 := rfl
theorem c_4 : ((4 : Nat) : Int) = 4 := rfl
/-! values -/
theorem e_qVar {i : Nat} : qVar i env M Q E = @vP env[i]? M ⟨Q⟩ := rfl
theorem e_qC : qC x env M Q E = Q x M := rfl
theorem e_q2 {f : F2} {a b : QT} : q2 f a b env M Q E = a env M (fun x M1 => b env M1 (fun y M2 => f x y M2 Q) E) E := rfl
theorem e_qTst {t : QT} {Q : Bool → Mem → Prop} : qTst t env M Q E = t env M (fun x M1 => blP x fun b => Q b M1) E := rfl
theorem e_qAnd {t u : QB} {Q : Bool → Mem → Prop} : qAnd t u env M Q E = t env M (fun c M1 => @iteB c ⟨u env M1 Q E⟩ ⟨Q false M1⟩) E := rfl
theorem e_qOr {t u : QB} {Q : Bool → Mem → Prop} : qOr t u env M Q E = t env M (fun c M1 => @iteB c ⟨Q true M1⟩ ⟨u env M1 Q E⟩) E := rfl
theorem e_qNot {t : QB} {Q : Bool → Mem → Prop} : qNot t env M Q E = t env M (fun c M1 => Q (!c) M1) E := rfl
theorem e_qAndV {t u : QT} : qAndV t u env M Q E = t env M (fun x M1 => blP x fun c => @iteB c ⟨u env M1 Q E⟩ ⟨Q (.bl false) M1⟩) E := rfl
theorem e_qOrV {t u : QT} : qOrV t u env M Q E = t env M (fun x M1 => blP x fun c => @iteB c ⟨Q (.bl true) M1⟩ ⟨u env M1 Q E⟩) E := rfl
theorem e_qNotV {t : QT} : qNotV t env M Q E = t env M (fun x M1 => blP x fun c => Q (.bl (!c)) M1) E := rfl
theorem e_qIf {c : QB} {t u : QT} : qIf c t u env M Q E = c env M (fun b M1 => @iteB b ⟨t env M1 Q E⟩ ⟨u env M1 Q E⟩) E := rfl
theorem e_qNil {Q : List PV → Mem → Prop} : qNil env M Q E = Q [] M := rfl
theorem e_qCons {t : QT} {r : QA} {Q : List PV → Mem → Prop} : qCons t r env M Q E = t env M (fun x M1 => r env M1 (fun xs M2 => Q (x :: xs) M2) E) E := rfl
def tupP (xs : List PV) (M : Mem) (Q : PK) : Prop := xs.length ≤ sizeLine ∧ Q (.tup xs) M
def lisP (xs : List PV) (M : Mem) (Q : PK) : Prop := xs.length ≤ sizeLine ∧ Q (.lst xs) M
def lsmP (xs : List PV) (M : Mem) (Q : PK) : Prop := xs.length ≤ sizeLine ∧ ∀ p, M p = none → Q (.ref p) (mset M p (.lst xs))
theorem e_qTup {t : QA} : qTup t env M Q E = t env M (fun xs M1 => tupP xs M1 Q) E := rfl
theorem e_qLst {t : QA} : qLst t env M Q E = t env M (fun xs M1 => lisP xs M1 Q) E := rfl
theorem e_qLstM {t : QA} : qLstM t env M Q E = t env M (fun xs M1 => lsmP xs M1 Q) E := rfl
theorem len_ok {n : Nat} (h : n ≤ 1000) : n ≤ sizeLine := by rw [sizeLine_eq]; omega
theorem len_lt {n : Nat} (h : n < 1000) : n < sizeLine := by rw [sizeLine_eq]; omega
theorem len_lt' {n : Nat} (h : n ≤ 1000) : n < sizeLine := by rw [sizeLine_eq]; omega
theorem tup_0 : tupP [] M Q = Q (.tup []) M := propext ⟨fun h => h.2, fun h => ⟨len_ok (by decide), h⟩⟩
variable {a b c d e f g h i : PV}
theorem tup_1 : tupP [a] M Q = Q (.tup [a]) M := propext ⟨fun h => h.2, fun h => ⟨len_ok (by decide : 1 ≤ 1000), h⟩⟩
theorem tup_2 : tupP [a, b] M Q = Q (.tup [a, b]) M := propext ⟨fun h => h.2, fun h => ⟨len_ok (by decide : 2 ≤ 1000), h⟩⟩
theorem tup_3 : tupP [a, b, c] M Q = Q (.tup [a, b, c]) M := propext ⟨fun h => h.2, fun h => ⟨len_ok (by decide : 3 ≤ 1000), h⟩⟩
theorem tup_4 : tupP [a, b, c, d] M Q = Q (.tup [a, b, c, d]) M := propext ⟨fun h => h.2, fun h => ⟨len_ok (by decide : 4 ≤ 1000), h⟩⟩
theorem tup_5 : tupP [a, b, c, d, e] M Q = Q (.tup [a, b, c, d, e]) M := propext ⟨fun h => h.2, fun h => ⟨len_ok (by decide : 5 ≤ 1000), h⟩⟩
theorem lis_0 : lisP [] M Q = Q (.lst []) M := propext ⟨fun h => h.2, fun h => ⟨len_ok (by decide), h⟩⟩
theorem lis_1 : lisP [a] M Q = Q (.lst [a]) M := propext ⟨fun h => h.2, fun h => ⟨len_ok (by decide : 1 ≤ 1000), h⟩⟩
theorem lis_2 : lisP [a, b] M Q = Q (.lst [a, b]) M := propext ⟨fun h => h.2, fun h => ⟨len_ok (by decide : 2 ≤ 1000), h⟩⟩
theorem lis_3 : lisP [a, b, c] M Q = Q (.lst [a, b, c]) M := propext ⟨fun h => h.2, fun h => ⟨len_ok (by decide : 3 ≤ 1000), h⟩⟩
theorem lis_4 : lisP [a, b, c, d] M Q = Q (.lst [a, b, c, d]) M := propext ⟨fun h => h.2, fun h => ⟨len_ok (by decide : 4 ≤ 1000), h⟩⟩
theorem lis_5 : lisP [a, b, c, d, e] M Q = Q (.lst [a, b, c, d, e]) M := propext ⟨fun h => h.2, fun h => ⟨len_ok (by decide : 5 ≤ 1000), h⟩⟩
theorem lis_6 : lisP [a, b, c, d, e, f] M Q = Q (.lst [a, b, c, d, e, f]) M := propext ⟨fun h => h.2, fun h => ⟨len_ok (by decide : 6 ≤ 1000), h⟩⟩
theorem lis_7 : lisP [a, b, c, d, e, f, g] M Q = Q (.lst [a, b, c, d, e, f, g]) M := propext ⟨fun h => h.2, fun h => ⟨len_ok (by decide : 7 ≤ 1000), h⟩⟩
theorem lis_8 : lisP [a, b, c, d, e, f, g, h] M Q = Q (.lst [a, b, c, d, e, f, g, h]) M := propext ⟨fun h => h.2, fun h => ⟨len_ok (by decide : 8 ≤ 1000), h⟩⟩
theorem lsm_eq : lsmP xs M Q = (xs.length ≤ sizeLine ∧ @lstP xs M ⟨Q⟩) := rfl
theorem lstP_of {Q : Box PK} (h : ∀ p, M p = none → Q.v (.ref p) (mset M p (.lst xs))) : @lstP xs M Q := h
/-! built-ins -/
theorem e_qCB {r : FC} {t : QA} : qCB r t env M Q E = t env M (fun xs M1 => r xs M1 Q) E := rfl
theorem e_cLen : cLen [x] M Q = len1 x M Q := rfl
theorem e_cMax {i j : Int} : cMax [.int i, .int j] M Q = Q (.int (max i j)) M := rfl
theorem e_cMin {i j : Int} : cMin [.int i, .int j] M Q = Q (.int (min i j)) M := rfl
theorem e_cAbs {i : Int} : cAbs [.int i] M Q = Q (.int i.natAbs) M := rfl
theorem e_cInt_i {i : Int} : cInt [.int i] M Q = Q (.int i) M := rfl
theorem e_cInt_d {p : Prop} [Decidable p] : cInt [.bl (decide p)] M Q = Q (.int (if p then 1 else 0)) M := by
  show Q (.int (if decide p = true then 1 else 0)) M = _
  simp only [decide_eq_true_eq]
theorem e_cInt_nd {p : Prop} [Decidable p] : cInt [.bl (!decide p)] M Q = Q (.int (if p then 0 else 1)) M := by
  show Q (.int (if (!decide p) = true then 1 else 0)) M = _
  by_cases h : p <;> simp [h]
theorem e_cInt_b {b : Bool} : cInt [.bl b] M Q = Q (.int (if b then 1 else 0)) M := rfl
theorem e_cInt_s {a : Str} : cInt [.str a] M Q = @txtP a M ⟨Q⟩ := rfl
theorem e_cStr {i : Int} : cStr [.int i] M Q = (i.natAbs.log2 < 1920 ∧ Q (.str (toString i)) M) := rfl
theorem e_cDivmod {i j : Int} : cDivmod [.int i, .int j] M Q = (CDivP i j ∧ Q (.tup [.int (i / j), .int (i % j)]) M) := rfl
theorem e_cIsi : cIsi K [x, y] M Q = @isiB K x y M ⟨Q⟩ := rfl
theorem e_qBits {t : QT} : qBits t env M Q E = t env M (fun x M1 => ∃ i, x = .int i ∧ Q (.int (Builtin.Int.intBits i : Nat)) M1) E := rfl
def intP (x : PV) (A : Int → Prop) : Prop := ∃ i, x = .int i ∧ A i
theorem intP_int {i : Int} {A : Int → Prop} : intP (.int i) A = A i := propext ⟨fun ⟨_, h, q⟩ => by cases h; exact q, fun q => ⟨_, rfl, q⟩⟩
theorem e_qBits2 {t : QT} : qBits t env M Q E = t env M (fun x M1 => intP x fun i => Q (.int (Builtin.Int.intBits i : Nat)) M1) E := rfl
theorem e_qNeg {t : QT} : qNeg t env M Q E = t env M (fun x M1 => intP x fun i => Q (.int (-i)) M1) E := rfl
theorem e_qSl {t : QT} {lo hi : QO} : qSl t lo hi env M Q E = t env M (fun x M1 => lo env M1 (fun l M2 => hi env M2 (fun u M3 => bSl l u x M3 Q) E) E) E := rfl
theorem e_qoNone {Q : Option Int → Mem → Prop} : qoNone env M Q E = Q none M := rfl
theorem e_qoSome {t : QT} {Q : Option Int → Mem → Prop} : qoSome t env M Q E = t env M (fun x M1 => intP x fun i => Q (some i) M1) E := rfl
/-! calls, fields, instances -/
theorem e_qCall {s : SpQ} {t : QA} : qCall s t env M Q E = t env M (fun xs M1 => @callP s xs M1 ⟨Q⟩ ⟨E⟩) E := rfl
theorem e_qFld {f : Str} {t : QT} : qFld K f t env M Q E = t env M (fun x M1 => @fldB K f x M1 ⟨Q⟩) E := rfl
theorem e_qMeth {C : Addr} {m : Str} {s : SpQ} {to : QT} {t : QA} : qMeth C m s to t env M Q E = to env M (fun x M1 => @mthB C m x M1 ⟨t env M1 (fun ys M2 => @callP s (x :: ys) M2 ⟨Q⟩ ⟨E⟩) E⟩) E := rfl
def makP (C : Addr) (ns : List Str) (xs : List PV) (M : Mem) (Q : PK) : Prop := xs.length = ns.length ∧ Q (.obj C ns xs) M
theorem e_qMake {C : Addr} {ns : List Str} {dps : List PV} {t : QA} : qMake C ns dps t env M Q E = t env M (fun xs M1 => makP C ns (xs ++ dps) M1 Q) E := rfl
theorem makP_of {C : Addr} {ns : List Str} (h : xs.length = ns.length) : makP C ns xs M Q = Q (.obj C ns xs) M := propext ⟨fun z => z.2, fun z => ⟨h, z⟩⟩
theorem makP_2 {C : Addr} {n1 n2 : Str} {a b : PV} : makP C [n1, n2] [a, b] M Q = Q (.obj C [n1, n2] [a, b]) M := makP_of rfl
theorem makP_3 {C : Addr} {n1 n2 n3 : Str} {a b c : PV} : makP C [n1, n2, n3] [a, b, c] M Q = Q (.obj C [n1, n2, n3] [a, b, c]) M := makP_of rfl
theorem makP_4 {C : Addr} {n1 n2 n3 n4 : Str} {a b c d : PV} : makP C [n1, n2, n3, n4] [a, b, c, d] M Q = Q (.obj C [n1, n2, n3, n4] [a, b, c, d]) M := makP_of rfl
theorem e_qMakeK {C : Addr} {ns : List Str} {n m : Nat} {gP : List PV → List PV → List PV} {t tk : QA} : qMakeK C ns n m gP t tk env M Q E = t env M (fun xs M1 => tk env M1 (fun zs M2 => xs.length = n ∧ zs.length = m ∧ makP C ns (gP xs zs) M2 Q) E) E := rfl
/-! the rest -/
theorem e_qOrT {ta tb : QT} : qOrT ta tb env M Q E = ta env M (fun x M1 => @truP x M1 ⟨fun k => @iteB k ⟨Q x M1⟩ ⟨tb env M1 Q E⟩⟩) E := rfl
theorem e_qOrC {ta : QT} : qOrT ta (qC y) env M Q E = ta env M (fun x M1 => @truP x M1 ⟨fun k => Q (if k = true then x else y) M1⟩) E := by
  show ta env M (fun x M1 => ∃ k, trP M1 x = some k ∧ if k = true then Q x M1 else Q y M1) E = ta env M (fun x M1 => ∃ k, trP M1 x = some k ∧ Q (if k = true then x else y) M1) E
  congr 1
  funext x M1
  congr 1
  funext k
  cases k <;> rfl
theorem truP_some {b : Bool} {A : Box (Bool → Prop)} (h : trP M x = some b) : @truP x M A = A.v b := propext ⟨fun ⟨_, h', q⟩ => by rw [h] at h'; cases h'; exact q, fun q => ⟨_, h, q⟩⟩
theorem truP_int {i : Int} {A : Box (Bool → Prop)} : @truP (.int i) M A = A.v (i != 0) := truP_some rfl
theorem truP_bl {i : Bool} {A : Box (Bool → Prop)} : @truP (.bl i) M A = A.v i := truP_some rfl
theorem truP_non {A : Box (Bool → Prop)} : @truP .non M A = A.v false := truP_some rfl
theorem if_int {k : Bool} {i j : Int} : (if k = true then PV.int i else PV.int j) = PV.int (if k = true then i else j) := by cases k <;> rfl
theorem e_qTru {t : QT} {Q : Bool → Mem → Prop} : qTru t env M Q E = t env M (fun x M1 => @truP x M1 ⟨fun b => Q b M1⟩) E := rfl
theorem e_qChain {f f' : F2} {ta tb tc : QT} : qChain f f' ta tb tc env M Q E = ta env M (fun x M1 => tb env M1 (fun y M2 => f x y M2 fun z M3 => blP z fun k => @iteB k ⟨tc env M3 (fun u M4 => f' y u M4 Q) E⟩ ⟨Q (.bl false) M3⟩) E) E := rfl
theorem e_qApp {to te : QT} : qApp to te env M Q E = to env M (fun x M1 => @app1 x M1 ⟨te env M1 (fun y M2 => @app2 x y M2 ⟨Q⟩) E⟩) E := by
  show to env M (fun x M1 => ∃ a ys, x = .ref a ∧ M1 a = some (.lst ys) ∧ te env M1 (fun y M2 => ∃ zs, M2 a = some (.lst zs) ∧ zs.length < sizeLine ∧ Q .non (mset M2 a (.lst (zs ++ [y])))) E) E =
    to env M (fun x M1 => ∃ a ys, x = .ref a ∧ M1 a = some (.lst ys) ∧ te env M1 (fun y M2 => ∃ a zs, x = .ref a ∧ M2 a = some (.lst zs) ∧ zs.length < sizeLine ∧ Q .non (mset M2 a (.lst (zs ++ [y])))) E) E
  congr 1
  funext x M1
  apply propext
  refine exists_congr fun a => exists_congr fun ys => and_congr_right fun hx => ?_
  subst hx
  have e : (fun (y : PV) (M2 : Mem) => ∃ zs, M2 a = some (.lst zs) ∧ zs.length < sizeLine ∧ Q .non (mset M2 a (.lst (zs ++ [y])))) = fun y M2 => ∃ b zs, PV.ref a = .ref b ∧ M2 b = some (.lst zs) ∧ zs.length < sizeLine ∧ Q .non (mset M2 b (.lst (zs ++ [y]))) := by
    funext y M2
    apply propext
    exact ⟨fun ⟨zs, h⟩ => ⟨a, zs, rfl, h⟩, fun ⟨b, zs, h1, h⟩ => by cases h1; exact ⟨zs, h⟩⟩
  rw [e]
theorem app1_mset {p : Addr} {ys : List PV} {R : Box Prop} : @app1 (.ref p) (mset M p (.lst ys)) R = R.v := propext ⟨fun ⟨_, _, _, _, q⟩ => q, fun q => ⟨_, _, rfl, mset_same, q⟩⟩
theorem app2_mset {p : Addr} {ys : List PV} {Q : Box PK} : @app2 (.ref p) y (mset M p (.lst ys)) Q = (ys.length < sizeLine ∧ Q.v .non (mset M p (.lst (ys ++ [y])))) := propext
  ⟨fun ⟨_, _, h, h1, q⟩ => by cases h; rw [mset_same] at h1; cases h1; rw [mset_mset] at q; exact q, fun q => ⟨_, _, rfl, mset_same, by rw [mset_mset]; exact q⟩⟩
/-! values of two -/
theorem b_add_i {i j : Int} : bAdd (.int i) (.int j) M Q = Q (.int (i + j)) M := rfl
theorem b_add_s {i j : Str} : bAdd (.str i) (.str j) M Q = (i.length + j.length ≤ sizeLine ∧ Q (.str (i ++ j)) M) := rfl
theorem b_add_l {i j : List PV} : bAdd (.lst i) (.lst j) M Q = (i.length + j.length ≤ sizeLine ∧ Q (.lst (i ++ j)) M) := rfl
theorem b_sub {i j : Int} : bSub (.int i) (.int j) M Q = Q (.int (i - j)) M := rfl
theorem b_mul_i {i j : Int} : bMul (.int i) (.int j) M Q = (IntMulOk i j ∧ Q (.int (i * j)) M) := rfl
theorem b_mul_s {a : Str} {n : Int} : bMul (.str a) (.int n) M Q = ((0 ≤ n ∧ n ≤ 100000 ∧ a.length ≤ 100) ∧ Q (.str (repS a n)) M) := rfl
theorem b_div {i j : Int} : bDiv (.int i) (.int j) M Q = (CDivW i j ∧ Q (.int (i / j)) M) := rfl
theorem b_mod {i j : Int} : bMod (.int i) (.int j) M Q = (0 < j ∧ Q (.int (i % j)) M) := rfl
theorem b_pow {i j : Int} : bPow (.int i) (.int j) M Q = (CPow i j ∧ Q (.int (i ^ j.toNat)) M) := rfl
theorem b_lt {i j : Int} : bLt (.int i) (.int j) M Q = Q (.bl (decide (i < j))) M := rfl
theorem b_le {i j : Int} : bLe (.int i) (.int j) M Q = Q (.bl (decide (i ≤ j))) M := rfl
theorem b_gt {i j : Int} : bGt (.int i) (.int j) M Q = Q (.bl (decide (j < i))) M := rfl
theorem b_ge {i j : Int} : bGe (.int i) (.int j) M Q = Q (.bl (decide (j ≤ i))) M := rfl
theorem i_add_i {i j : Int} : iAdd (.int i) (.int j) M Q = Q (.int (i + j)) M := rfl
theorem i_add_s {i j : Str} : iAdd (.str i) (.str j) M Q = (i.length + j.length ≤ sizeLine ∧ Q (.str (i ++ j)) M) := rfl
theorem i_mul_i {i j : Int} : iMul (.int i) (.int j) M Q = (IntMulOk i j ∧ Q (.int (i * j)) M) := rfl
def eqP (neg : Bool) (o o' : Option PyData) (M : Mem) [Q : Box PK] : Prop := match o, o' with
  | some d, some e => min d.depth e.depth ≤ 64 ∧ Q.v (.bl (if neg then !PyData.eqv d e else PyData.eqv d e)) M
  | _, _ => False
theorem xi_lst {i : Int} : bIx (.lst xs) (.int i) M Q = @ixP (atI xs i) M ⟨Q⟩ := rfl
theorem xi_scr {ns : List Int} {i : Int} : bIx (.scr ns) (.int i) M Q = @ixP (atI (ns.map PV.int) i) M ⟨Q⟩ := rfl
theorem xi_tup {i : Int} : bIx (.tup xs) (.int i) M Q = @ixP (atI xs i) M ⟨Q⟩ := rfl
theorem xi_mset {a : Addr} {i : Int} : bIx (.ref a) (.int i) (mset M a (.lst xs)) Q = @ixP (atI xs i) (mset M a (.lst xs)) ⟨Q⟩ := bIx_mset
theorem at_0 {α : Type} {a : α} {l : List α} : atI (a :: l) 0 = some a := by rw [atI_in (by decide) (by simp)]; rfl
theorem at_1 {α : Type} {a b : α} {l : List α} : atI (a :: b :: l) 1 = some b := by rw [atI_in (by decide) (by simp; omega)]; rfl
theorem at_2 {α : Type} {a b c : α} {l : List α} : atI (a :: b :: c :: l) 2 = some c := by rw [atI_in (by decide) (by simp; omega)]; rfl
theorem at_3 {α : Type} {a b c d : α} {l : List α} : atI (a :: b :: c :: d :: l) 3 = some d := by rw [atI_in (by decide) (by simp; omega)]; rfl
theorem sqA_ref {a : Addr} (h : M a = some (.lst xs)) : sqA M (.ref a) = some xs := by
  show ml (M a) = _
  rw [h]
  rfl
theorem dat2 {a b : Int} : dat M (.tup [.int a, .int b]) = some (.tuple [.int a, .int b]) := rfl
theorem bNe_pair {a b : Int} : bEqP true (.tup [.int a, .int b]) (.tup [.int a, .int b]) M Q = Q (.bl false) M := by
  have e : PyData.eqv (.tuple [.int a, .int b]) (.tuple [.int a, .int b]) = true := by simp [PyData.eqv, PyData.eqvAll]
  show (min _ _ ≤ 64 ∧ Q (.bl (if true = true then !PyData.eqv (.tuple [.int a, .int b]) (.tuple [.int a, .int b]) else _)) M) = _
  rw [e]
  exact propext ⟨fun h => h.2, fun h => ⟨by simp [PyData.depth, PyData.depthAll], h⟩⟩
theorem mext_set {p : Addr} {o : MO} (h : M p = none) : MExt M (mset M p o) := fun a u e => by rw [mset_ne (by rintro rfl; rw [h] at e; cases e)]; exact e
theorem mext_trans {M1 M2 M3 : Mem} (h : MExt M1 M2) (k : MExt M2 M3) : MExt M1 M3 := fun a u e => k a u (h a u e)
theorem app1_ref {a : Addr} {ys : List PV} {R : Box Prop} (h : M a = some (.lst ys)) (q : R.v) : @app1 (.ref a) M R := ⟨a, ys, rfl, h, q⟩
theorem app2_ref {a : Addr} {ys : List PV} {Q : Box PK} (h : M a = some (.lst ys)) (l : ys.length < sizeLine) (q : Q.v .non (mset M a (.lst (ys ++ [y])))) : @app2 (.ref a) y M Q := ⟨a, ys, rfl, h, l, q⟩
theorem bEq_nil : bEqP false (.lst []) (.lst []) M Q = Q (.bl true) M := propext ⟨fun h => h.2, fun h => ⟨by decide, h⟩⟩
/-! statements -/
theorem e_sNext : sNext D env M = D.nx env M := rfl
theorem e_sSeq {t u : QS} : sSeq t u D env M = t { D with nx := u D } env M := rfl
theorem e_sRet {t : QT} : sRet t D env M = t env M D.rt (exE D env) := rfl
theorem e_sDrop {t : QT} : sDrop t D env M = t env M (fun _ M1 => D.nx env M1) (exE D env) := rfl
theorem e_sIf {c : QB} {t u : QS} : sIf c t u D env M = c env M (fun b M1 => @iteB b ⟨t D env M1⟩ ⟨u D env M1⟩) (exE D env) := rfl
theorem e_sAsg {t : QT} {g : QTG} : sAsg t g D env M = t env M (fun x M1 => g x env M1 D.nx) (exE D env) := rfl
theorem e_sAug {i : Nat} {t : QT} {f : F2} : sAug i t f D env M = @vP env[i]? M ⟨fun x _ => t env M (fun y M1 => f x y M1 fun z M2 => @nxP (env.set i (some z)) M2 ⟨D.nx⟩) (exE D env)⟩ := rfl
theorem e_sBreak : sBreak D env M = D.bk env M := rfl
theorem e_sCont : sCont D env M = D.ct env M := rfl
theorem e_gNm {i : Nat} {Q : Sl → Mem → Prop} : gNm i x env M Q = @nxP (env.set i (some x)) M ⟨Q⟩ := rfl
theorem e_gTu {n : Nat} {gs : QTGs} {Q : Sl → Mem → Prop} : gTu n gs (.tup xs) env M Q = (xs.length = n ∧ gs xs env M Q) := rfl
theorem e_gsNil {Q : Sl → Mem → Prop} : gsNil [] env M Q = Q env M := rfl
theorem e_gsCons {g : QTG} {gs : QTGs} {Q : Sl → Mem → Prop} : gsCons g gs (x :: xs) env M Q = g x env M fun env' M' => gs xs env' M' Q := rfl
theorem seq_cut {t u : QS} (P : Sl → Mem → Prop) (h1 : ∀ R : Sl → Mem → Prop, (∀ env M, P env M → R env M) → t { D with nx := R } env M) (h2 : ∀ env M, P env M → u D env M) : sSeq t u D env M := h1 (u D) h2
theorem seq_go {t u : QS} (h : t { D with nx := u D } env M) : sSeq t u D env M := h
theorem s_asg {t : QT} {g : QTG} {u : QS} : sSeq (sAsg t g) u D env M = sAsg t g { D with nx := u D } env M := rfl
theorem s_aug {i : Nat} {t : QT} {f : F2} {u : QS} : sSeq (sAug i t f) u D env M = sAug i t f { D with nx := u D } env M := rfl
theorem s_drop {t : QT} {u : QS} : sSeq (sDrop t) u D env M = sDrop t { D with nx := u D } env M := rfl
theorem sWhile_of {c : QB} {b : QS} (I : Nat → Sl → Mem → Prop) (h0 : ∃ m, I m env M) (h : ∀ m env M, I m env M → c env M (fun k M1 => @iteB k
    ⟨b { D with nx := fun env' M' => ∃ m', m' < m ∧ I m' env' M', bk := D.nx, ct := fun env' M' => ∃ m', m' < m ∧ I m' env' M' } env M1⟩ ⟨D.nx env M1⟩) (exE D env)) : sWhile c b D env M := ⟨I, h0, h⟩
theorem forI_of {n : Nat} {at' : Nat → PV → Prop} {st : Mem → Prop} {g : QTG} {b : QS} (I : Nat → Sl → Mem → Prop) (h0 : I 0 env M) (hs : ∀ i env M, i ≤ n → I i env M → st M)
    (h : ∀ i x env M, i < n → at' i x → I i env M → g x env M fun env' M' => b { D with nx := I (i + 1), bk := D.nx, ct := I (i + 1) } env' M') (hn : ∀ env M, I n env M → D.nx env M) : forI n at' st g b D env M := ⟨I, h0, hs, h, hn⟩
def rngP (hi : Int) (g : QTG) (b : QS) (D : QEnds) (env : Sl) (M : Mem) : Prop := (-(2 ^ 62) ≤ hi ∧ hi < 2 ^ 62) ∧ forI hi.toNat (fun i x => x = .int i) (fun _ => True) g b D env M
def rng2P (lo hi : Int) (g : QTG) (b : QS) (D : QEnds) (env : Sl) (M : Mem) : Prop := (-(2 ^ 62) ≤ lo ∧ lo < 2 ^ 62 ∧ -(2 ^ 62) ≤ hi ∧ hi < 2 ^ 62) ∧ forI (hi - lo).toNat (fun i x => x = .int (lo + i)) (fun _ => True) g b D env M
def isR1 (xs : List PV) (A : Int → Prop) : Prop := ∃ hi, xs = [.int hi] ∧ A hi
def isR2 (xs : List PV) (A : Int → Int → Prop) : Prop := ∃ lo hi, xs = [.int lo, .int hi] ∧ A lo hi
theorem isR1_eq {i : Int} {A : Int → Prop} : isR1 [.int i] A = A i := propext ⟨fun ⟨_, h, q⟩ => by cases h; exact q, fun q => ⟨_, rfl, q⟩⟩
theorem isR2_eq {i j : Int} {A : Int → Int → Prop} : isR2 [.int i, .int j] A = A i j := propext ⟨fun ⟨_, _, h, q⟩ => by cases h; exact q, fun q => ⟨_, _, rfl, q⟩⟩
theorem e_sForR1 {t : QA} {g : QTG} {b : QS} : sForR1 t g b D env M = t env M (fun xs M1 => isR1 xs fun hi => rngP hi g b D env M1) (exE D env) := rfl
theorem e_sForR2 {t : QA} {g : QTG} {b : QS} : sForR2 t g b D env M = t env M (fun xs M1 => isR2 xs fun lo hi => rng2P lo hi g b D env M1) (exE D env) := rfl
theorem rngP_of {hi : Int} {g : QTG} {b : QS} (h : -(2 ^ 62) ≤ hi ∧ hi < 2 ^ 62) (I : Nat → Sl → Mem → Prop) (h0 : I 0 env M)
    (hs : ∀ (i : Nat) env M, (i : Int) < hi → I i env M → g (.int i) env M fun env' M' => b { D with nx := I (i + 1), bk := D.nx, ct := I (i + 1) } env' M') (hn : ∀ env M, I hi.toNat env M → D.nx env M) : rngP hi g b D env M :=
  ⟨h, I, h0, fun _ _ _ _ _ => trivial, fun i x env M hi' hx q => by subst hx; exact hs i env M (by omega) q, hn⟩
theorem rng2P_of {lo hi : Int} {g : QTG} {b : QS} (h : -(2 ^ 62) ≤ lo ∧ lo < 2 ^ 62 ∧ -(2 ^ 62) ≤ hi ∧ hi < 2 ^ 62) (I : Nat → Sl → Mem → Prop) (h0 : I 0 env M)
    (hs : ∀ (i : Nat) env M, lo + (i : Int) < hi → I i env M → g (.int (lo + i)) env M fun env' M' => b { D with nx := I (i + 1), bk := D.nx, ct := I (i + 1) } env' M') (hn : ∀ env M, I (hi - lo).toNat env M → D.nx env M) : rng2P lo hi g b D env M :=
  ⟨h, I, h0, fun _ _ _ _ _ => trivial, fun i x env M hi' hx q => by subst hx; exact hs i env M (by omega) q, hn⟩
def forP (x : PV) (g : QTG) (b : QS) (D : QEnds) (env : Sl) (M : Mem) : Prop := match x with
  | .tup xs => forI xs.length (fun i x => xs[i]? = some x) (fun _ => True) g b D env M
  | _ => False
theorem e_sForT {t : QT} {g : QTG} {b : QS} : sForT t g b D env M = t env M (fun x M1 => forP x g b D env M1) (exE D env) := rfl
theorem forP_tup {g : QTG} {b : QS} : forP (.tup xs) g b D env M = forI xs.length (fun i x => xs[i]? = some x) (fun _ => True) g b D env M := rfl
def forLP (x : PV) (g : QTG) (b : QS) (D : QEnds) (env : Sl) (M1 : Mem) : Prop := match x with
  | .lst xs => forI xs.length (fun i x => xs[i]? = some x) (fun _ => True) g b D env M1
  | .scr ns => forI ns.length (fun i x => ∃ n, ns[i]? = some n ∧ x = .int n) (fun _ => True) g b D env M1
  | .ref a => ∃ xs, M1 a = some (.lst xs) ∧ forI xs.length (fun i x => xs[i]? = some x) (fun M => M a = some (.lst xs)) g b D env M1
  | _ => False
theorem e_sForL {t : QT} {g : QTG} {b : QS} : sForL t g b D env M = t env M (fun x M1 => forLP x g b D env M1) (exE D env) := rfl
theorem forLP_ref {a : Addr} {g : QTG} {b : QS} (h : M a = some (.lst xs)) (z : forI xs.length (fun i x => xs[i]? = some x) (fun M => M a = some (.lst xs)) g b D env M) : forLP (.ref a) g b D env M := ⟨xs, h, z⟩
theorem forLP_lst {g : QTG} {b : QS} : forLP (.lst xs) g b D env M = forI xs.length (fun i x => xs[i]? = some x) (fun _ => True) g b D env M := rfl
/-! comprehensions -/
theorem e_qYes {Q : Bool → Mem → Prop} : qYes env M Q E = Q true M := rfl
theorem e_lcEl {tt : QB} {te : QT} {r : Option PV} : lcEl tt te env M r = tt env M (fun b M4 => M4 = M ∧ @iteB b ⟨te env M (fun y M5 => M5 = M ∧ r = some y) EF⟩ ⟨r = none⟩) EF := rfl
theorem e_qLcT {j : Nat} {vs : List Nat} {tl : QT} {tt : QB} {te : QT} : qLcT j vs tl tt te env M Q E = tl env M (fun x M1 => ∃ items, x = .tup items ∧ lcQ items (fun y => some ((wipeQ env vs).set j (some y))) tt te M1 Q) E := rfl
def lcT (x : PV) (vs : List Nat) (j : Nat) (tt : QB) (te : QT) (env : Sl) (M1 : Mem) [Q : Box PK] : Prop := ∃ items, x = .tup items ∧ lcQ items (fun y => some ((wipeQ env vs).set j (some y))) tt te M1 Q.v
def lcL (o : Option (List PV)) (vs : List Nat) (j : Nat) (tt : QB) (te : QT) (env : Sl) (M1 : Mem) [Q : Box PK] : Prop := match o with
  | some items => lcQ items (fun y => some ((wipeQ env vs).set j (some y))) tt te M1 Q.v
  | none => False
theorem e_lcT {j : Nat} {vs : List Nat} {tl : QT} {tt : QB} {te : QT} : qLcT j vs tl tt te env M Q E = tl env M (fun x M1 => @lcT x vs j tt te env M1 ⟨Q⟩) E := rfl
theorem e_lcL {j : Nat} {vs : List Nat} {tl : QT} {tt : QB} {te : QT} : qLcL j vs tl tt te env M Q E = tl env M (fun x M1 => @lcL (sqA M1 x) vs j tt te env M1 ⟨Q⟩) E := rfl
theorem e_lcR1 {j : Nat} {vs : List Nat} {ta : QA} {tt : QB} {te : QT} : qLcR1 j vs ta tt te env M Q E = ta env M (fun xs M1 => isR1 xs fun hi => (-(2 ^ 62) ≤ hi ∧ hi < 2 ^ 62) ∧ @lcL (some ((List.range hi.toNat).map fun i => .int (i : Nat))) vs j tt te env M1 ⟨Q⟩) E := rfl
theorem lcT_of {vs : List Nat} {j : Nat} {tt : QB} {te : QT} {Q : Box PK} (r : PV → Option PV) (hn : xs.length ≤ 100000) (h : ∀ x ∈ xs, ∀ M2, MExt M M2 → lcEl tt te ((wipeQ env vs).set j (some x)) M2 (r x)) (q : Q.v (.lst (xs.filterMap r)) M) : @lcT (.tup xs) vs j tt te env M Q :=
  ⟨xs, rfl, hn, r, fun x hx M2 hM => ⟨_, rfl, h x hx M2 hM⟩, q⟩
theorem lcL_of {vs : List Nat} {j : Nat} {tt : QB} {te : QT} {Q : Box PK} (r : PV → Option PV) (hn : xs.length ≤ 100000) (h : ∀ x ∈ xs, ∀ M2, MExt M M2 → lcEl tt te ((wipeQ env vs).set j (some x)) M2 (r x)) (q : Q.v (.lst (xs.filterMap r)) M) : @lcL (some xs) vs j tt te env M Q :=
  ⟨hn, r, fun x hx M2 hM => ⟨_, rfl, h x hx M2 hM⟩, q⟩
theorem wipe_0 : wipeQ env [] = env := rfl
theorem wipe_1 {v : Nat} {vs : List Nat} : wipeQ env (v :: vs) = (wipeQ env vs).set v none := rfl
/-! kinds -/
theorem isiB_eq {Q : Box PK} {b : Bool} (h : ∀ Q', cIsi K [x, y] M Q' = Q' (.bl b) M) : @isiB K x y M Q = Q.v (.bl b) M := h Q.v
theorem isB_ii {i : Int} {Q : Box PK} : @isiB K (.int i) (.ty "int") M Q = Q.v (.bl true) M := isi_ii
theorem isB_ib {i : Int} {Q : Box PK} : @isiB K (.int i) (.ty "bool") M Q = Q.v (.bl false) M := isi_ib
theorem isB_is {i : Int} {Q : Box PK} : @isiB K (.int i) (.ty "str") M Q = Q.v (.bl false) M := isi_is
theorem isB_it {i : Int} {Q : Box PK} : @isiB K (.int i) (.ty "tuple") M Q = Q.v (.bl false) M := isi_it
theorem isB_bi {i : Bool} {Q : Box PK} : @isiB K (.bl i) (.ty "int") M Q = Q.v (.bl true) M := isi_bi
theorem isB_bb {i : Bool} {Q : Box PK} : @isiB K (.bl i) (.ty "bool") M Q = Q.v (.bl true) M := isi_bb
theorem isB_ss {i : Str} {Q : Box PK} : @isiB K (.str i) (.ty "str") M Q = Q.v (.bl true) M := isi_ss
theorem isB_st {i : Str} {Q : Box PK} : @isiB K (.str i) (.ty "tuple") M Q = Q.v (.bl false) M := isi_st
theorem isB_tt {i : List PV} {Q : Box PK} : @isiB K (.tup i) (.ty "tuple") M Q = Q.v (.bl true) M := isi_tt
theorem isB_nt {Q : Box PK} : @isiB K .non (.ty "tuple") M Q = Q.v (.bl false) M := isi_nt
theorem fldB_own {f : Str} {C : Addr} {ns : List Str} {os : List PV} {Q : Box PK} (o : own M x = some (C, ns, os)) (c : Cls K C) (n : NoAttr K C f) (h : lk f ns os = some y) : @fldB K f x M Q = Q.v y M := fldP_own o c n h
theorem mthB_own {C : Addr} {m : Str} {ns : List Str} {os : List PV} {R : Box Prop} (o : own M x = some (C, ns, os)) (h : m ∉ ns) : @mthB C m x M R = R.v := mthP_own o h
theorem start_eq {N : List Str} : startQ N xs = xs.map some ++ List.replicate (N.length - xs.length) none := rfl
end
end TN

namespace TQ
open PySem PySem.Spec PyProof.Rows L2
/-! ### tables: names or keys, and values -/
section
variable {κ : Type} [DecidableEq κ]
def memK (f : κ) (ns : List κ) : Bool := decide (f ∈ ns)
def putN (f : κ) (ns : List κ) : List κ := if f ∈ ns then ns else ns ++ [f]
def putX {α : Type} (f : κ) (v : α) : List κ → List α → List α
  | n :: ns, x :: xs => if n = f then v :: xs else x :: putX f v ns xs
  | _, _ => [v]
def getX {α : Type} (f : κ) : List κ → List α → Option α
  | n :: ns, x :: xs => if n = f then some x else getX f ns xs
  | _, _ => none
theorem putN_length (f : κ) (ns : List κ) : (putN f ns).length = if f ∈ ns then ns.length else ns.length + 1 := by
  unfold putN; split <;> simp
theorem putX_length {α : Type} (f : κ) (v : α) : ∀ (ns : List κ) (xs : List α), ns.length = xs.length → (putX f v ns xs).length = (putN f ns).length
  | [], [], _ => rfl
  | n :: ns, x :: xs, h => by
    have ih := putX_length f v ns xs (by simpa using h)
    unfold putX
    rw [putN_length] at ih ⊢
    by_cases e : n = f
    · subst e
      rw [if_pos rfl, if_pos List.mem_cons_self]
      simpa using h.symm
    · rw [if_neg e, List.length_cons, ih]
      by_cases m : f ∈ ns
      · rw [if_pos m, if_pos (List.mem_cons_of_mem _ m)]; rfl
      · rw [if_neg m, if_neg (fun z => (List.mem_cons.mp z).elim (fun z => e z.symm) m)]; rfl
theorem putX_reps {K : PySem.W.Frag} {G : Hp} {f : κ} {x : PV} {v : V} (r : Rep K G x v) : ∀ {ns : List κ} {xs : List PV} {vs : List V}, ns.length = xs.length → Reps K G xs vs → Reps K G (putX f x ns xs) (putX f v ns vs)
  | [], [], _, _, q => by cases q; exact Reps.one r
  | n :: ns, y :: xs, _, h, q => by
    obtain ⟨u, ws, rfl, q1, q2⟩ := q
    unfold putX
    by_cases e : n = f
    · rw [if_pos e, if_pos e]; exact Reps.cons r q2
    · rw [if_neg e, if_neg e]; exact Reps.cons q1 (putX_reps r (by simpa using h) q2)
theorem getX_rep {K : PySem.W.Frag} {G : Hp} {f : κ} : ∀ {ns : List κ} {xs : List PV} {vs : List V} {x : PV}, getX f ns xs = some x → Reps K G xs vs → ∃ v, getX f ns vs = some v ∧ Rep K G x v
  | [], _, _, _, h, _ => by cases h
  | _ :: _, [], _, _, h, _ => by cases h
  | n :: ns, y :: xs, _, x, h, q => by
    obtain ⟨u, ws, rfl, q1, q2⟩ := q
    unfold getX at h ⊢
    by_cases e : n = f
    · rw [if_pos e] at h ⊢; cases h; exact ⟨u, rfl, q1⟩
    · rw [if_neg e] at h ⊢; exact getX_rep h q2
theorem putN_cons_ne {f n : κ} {ns : List κ} (e : ¬ n = f) : putN f (n :: ns) = n :: putN f ns := by
  unfold putN
  by_cases m : f ∈ ns
  · rw [if_pos m, if_pos (List.mem_cons_of_mem _ m)]
  · rw [if_neg m, if_neg (fun z => (List.mem_cons.mp z).elim (fun z => e z.symm) m)]; rfl
theorem putK_zip {f : κ} {v : V} : ∀ {ns : List κ} {vs : List V}, ns.Nodup → ns.length = vs.length → putK (ns.zip vs) f v = (putN f ns).zip (putX f v ns vs)
  | [], [], _, _ => rfl
  | n :: ns, u :: vs, nd, h => by
    have nd' := List.nodup_cons.mp nd
    have ih := putK_zip (f := f) (v := v) (vs := vs) nd'.2 (by simpa using h)
    have ka : ∀ (ms : List κ) (ws : List V), ms.length = ws.length → ((ms.zip ws).any fun kv => decide (kv.1 = f)) = decide (f ∈ ms) := fun ms ws hl => by
      rw [Bool.eq_iff_iff]
      simp only [List.any_eq_true, decide_eq_true_eq]
      constructor
      · rintro ⟨p, hp, rfl⟩
        exact (List.of_mem_zip hp).1
      · intro hm
        obtain ⟨j, hj, e⟩ := List.getElem_of_mem hm
        refine ⟨(ms[j], ws[j]), ?_, e⟩
        exact List.mem_iff_getElem.mpr ⟨j, by simp; omega, by simp⟩
    have nomap : ∀ (ms : List κ) (ws : List V), f ∉ ms → (ms.zip ws).map (fun kv => if kv.1 = f then (kv.1, v) else kv) = ms.zip ws := fun ms ws hm => by
      have : ∀ kv ∈ ms.zip ws, (if kv.1 = f then (kv.1, v) else kv) = kv := fun kv hk => if_neg fun (z : kv.1 = f) => hm (z ▸ (List.of_mem_zip hk).1)
      rw [List.map_congr_left this, List.map_id']
    unfold putK at ih ⊢
    rw [ka _ _ h]
    rw [ka _ _ (by simpa using h)] at ih
    unfold putX
    by_cases e : n = f
    · subst e
      rw [if_pos rfl, if_pos (by simp), List.zip_cons_cons, List.map_cons, if_pos rfl]
      have hn : putN n (n :: ns) = n :: ns := if_pos List.mem_cons_self
      rw [hn, nomap ns vs nd'.1]
      rfl
    · rw [if_neg e, putN_cons_ne e, List.zip_cons_cons, List.zip_cons_cons, ← ih]
      by_cases m : f ∈ ns
      · rw [if_pos (by simp [m]), if_pos (by simp [m]), List.map_cons, if_neg e]
      · have hm2 : f ∉ n :: ns := fun z => (List.mem_cons.mp z).elim (fun z => e z.symm) m
        rw [if_neg (by simpa using hm2), if_neg (by simpa using m)]
        rfl
theorem valV_zip {f : κ} : ∀ {ns : List κ} {vs : List V}, valV (ns.zip vs) f = getX f ns vs
  | [], _ => rfl
  | _ :: _, [] => rfl
  | n :: ns, u :: vs => by
    rw [List.zip_cons_cons]
    unfold getX
    by_cases e : n = f
    · rw [if_pos e, valV_pos (p := (n, u)) e]
    · rw [if_neg e, valV_neg (p := (n, u)) e]; exact valV_zip
theorem getX_isSome {α : Type} {f : κ} : ∀ {ns : List κ} {vs : List α}, ns.length = vs.length → (getX f ns vs).isSome = memK f ns
  | [], [], _ => by simp [getX, memK]
  | n :: ns, u :: vs, h => by
    unfold getX
    by_cases e : n = f
    · rw [if_pos e]; simp [e, memK]
    · rw [if_neg e, getX_isSome (by simpa using h)]
      have : (f ∈ n :: ns) ↔ f ∈ ns := ⟨fun z => (List.mem_cons.mp z).elim (fun z => absurd z.symm e) id, List.mem_cons_of_mem _⟩
      simp only [memK, this]
theorem nodup_putN {f : κ} {ns : List κ} (h : ns.Nodup) : (putN f ns).Nodup := by
  unfold putN
  split
  · exact h
  · rename_i m
    rw [List.nodup_append]
    exact ⟨h, by simp, fun a ha b hb => by simp at hb; subst hb; rintro rfl; exact m ha⟩
end
theorem putF_zipX {f : Str} {v : V} : ∀ {ns : List Str} {vs : List V}, ns.length = vs.length → putF f v (ns.zip vs) = (putN f ns).zip (putX f v ns vs)
  | [], [], _ => rfl
  | n :: ns, u :: vs, h => by
    rw [List.zip_cons_cons]
    show (if n = f then (n, v) :: ns.zip vs else (n, u) :: putF f v (ns.zip vs)) = _
    unfold putX
    by_cases e : n = f
    · rw [if_pos e, if_pos e]
      subst e
      rw [show putN n (n :: ns) = n :: ns from if_pos List.mem_cons_self]
      rfl
    · rw [if_neg e, if_neg e, putN_cons_ne e, putF_zipX (by simpa using h)]
      rfl

/-! ### stores into written instances -/
section
variable {X : Cx} {W : WX} {pos : Pos}
def stoP (K : PySem.W.Frag) (f : Str) (y x : PV) (M : Mem) (Q : Mem → Prop) : Prop := ∃ a C ns xs, x = .ref a ∧ M a = some (.ins C ns xs) ∧ (Cls K C ∧ NoAttr K C f) ∧ ns.length = xs.length ∧ ns.length < 1000 ∧ Q (mset M a (.ins C (putN f ns) (putX f y ns xs)))
def sFldQ (K : PySem.W.Frag) (to tv : QT) (f : Str) : QS := fun D env M => tv env M (fun y M1 => to env M1 (fun x M2 => stoP K f y x M2 fun M3 => D.nx env M3) (exE D env)) (exE D env)
theorem qs_fld {K : PySem.W.Frag} {o value : Expr} {f : Str} {pos' : Pos} {to tv : QT} (hK : X.K = K) (ho : QE X W o to) (hv : QE X W value tv) (hs : swapsWith value (some (.Attribute o f pos')) pos.line X.env = pure false := by rfl) :
    QPS X W (.Assign [.Attribute o f pos'] value pos) (sFldQ K to tv f) := by
  subst hK
  refine (ps_fld ho hv hs).imp fun D σ H ⟨env, M, G, D0, S, q, L⟩ => ?_
  refine ⟨env, M, G, _, _, S, q, fun y M1 v H1 G1 e1 w1 r1 q1 => ?_, liftX_E S.env L.ex⟩
  refine ⟨env, M1, G1, _, _, S.to e1 w1, q1, fun x M2 u H2 G2 e2 w2 r2 q2 => ?_, (liftX_E S.env L.ex).mono e1⟩
  obtain ⟨a, C, ns, xs, rfl, hm, ⟨hc, hn⟩, hl, hk, q2⟩ := q2
  cases r2
  obtain ⟨g, dx, vs, h1, h2⟩ := w2.mem a _ hm
  have hl2 : ns.length = vs.length := hl.trans h2.length
  refine ⟨a, C, dx, _, rfl, h1, hc, hn, by rw [List.length_zip]; omega, ?_⟩
  rw [putF_zipX hl2]
  have w3 : Wf X.K (mset M2 a (.ins C (putN f ns) (putX f y ns xs))) (upd H2 a (.ins C dx ((putN f ns).zip (putX f v ns vs)))) G2 :=
    w2.put g ⟨dx, _, upd_same, putX_reps (Rep.mono e2 _ _ r1) hl h2⟩
  exact L.nx env _ σ _ G2 (e1.trans e2) ⟨S.env.mono (e1.trans e2), w3⟩ q2

/-! ### dicts -/
def qDict0 : QT := fun _ M Q _ => ∀ p, M p = none → Q (.ref p) (mset M p (.dic [] []))
theorem qe_dict0 : QE X W (.Dict [] [] pos) qDict0 := pe_dnewK.imp fun σ H Q ⟨env, M, G, Q0, E0, S, q, L, _⟩ => fun p hp => give_ref (m := .dic [] []) L S.wf (S.wf.free hp) ⟨[], upd_same, rfl, Reps.nil⟩ (q p (S.wf.freeM hp))
def keyP : PV → Option Key
  | .int i => some (.inl i)
  | .str s => some (.inr s)
  | _ => none
theorem keyP_V {K : PySem.W.Frag} {G : Hp} {x : PV} {v : V} {k : Key} (h : keyP x = some k) (r : Rep K G x v) : v = kV k := by
  cases x with
  | int i => cases h; cases r; rfl
  | str i => cases h; cases r; rfl
  | _ => cases h
def putP (k v x : PV) (M : Mem) (Q : Mem → Prop) : Prop := ∃ a ks xs kk, x = .ref a ∧ M a = some (.dic ks xs) ∧ keyP k = some kk ∧ ks.Nodup ∧ ks.length < sizeLine ∧ Q (mset M a (.dic (putN kk ks) (putX kk v ks xs)))
def sDPutQ (td ty tv : QT) : QS := fun D env M => tv env M (fun v M1 => td env M1 (fun x M2 => ty env M2 (fun k M3 => putP k v x M3 fun M4 => D.nx env M4) (exE D env)) (exE D env)) (exE D env)
theorem qs_dput {o i value : Expr} {pos' : Pos} {td ty tv : QT} (hu : X.A.units + 1 < cLine) (ho : QE X W o td) (hi : QE X W i ty) (hv : QE X W value tv) (hs : swapsWith value (some (.Subscript o i pos')) pos.line X.env = pure false := by rfl) :
    QPS X W (.Assign [.Subscript o i pos'] value pos) (sDPutQ td ty tv) := (ps_dput hu ho hi hv hs).imp fun D σ H ⟨env, M, G, D0, S, q, L⟩ => by
  refine ⟨env, M, G, _, _, S, q, fun v M1 vv H1 G1 e1 w1 r1 q1 => ?_, liftX_E S.env L.ex⟩
  refine ⟨env, M1, G1, _, _, S.to e1 w1, q1, fun x M2 u H2 G2 e2 w2 r2 q2 => ?_, (liftX_E S.env L.ex).mono e1⟩
  refine ⟨env, M2, G2, _, _, S.to (e1.trans e2) w2, q2, fun k M3 kv H3 G3 e3 w3 r3 q3 => ?_, (liftX_E S.env L.ex).mono (e1.trans e2)⟩
  obtain ⟨a, ks, xs, kk, rfl, hm, hk, nd, hl, q3⟩ := q3
  cases r2
  obtain ⟨g, vs, h1, h2, h3⟩ := w3.mem a _ hm
  have ek := keyP_V hk r3
  subst ek
  refine ⟨a, _, rfl, DPut.k h1 (by rw [List.length_zip]; omega), ?_⟩
  rw [putK_zip nd h2]
  have hl2 : ks.length = xs.length := h2.trans h3.length.symm
  have r := putX_reps (f := kk) (Rep.mono (e2.trans e3) _ _ r1) hl2 h3
  have w4 : Wf X.K (mset M3 a (.dic (putN kk ks) (putX kk v ks xs))) (upd H3 a (.dK ((putN kk ks).zip (putX kk vv ks vs)))) G3 := w3.put g ⟨_, upd_same, (putX_length kk vv ks vs h2).symm, r⟩
  exact L.nx env _ σ _ G3 ((e1.trans e2).trans e3) ⟨S.env.mono ((e1.trans e2).trans e3), w4⟩ q3

/-! ### in -/
def flatP : PV → Bool
  | .non => true
  | .bl _ => true
  | .int _ => true
  | .str _ => true
  | _ => false
def vOf : PV → V
  | .non => .non
  | .bl b => .bl b
  | .int i => .int i
  | .str s => .str s
  | _ => .non
theorem flat_V {K : PySem.W.Frag} {G : Hp} {x : PV} {v : V} (h : flatP x = true) (r : Rep K G x v) : v = vOf x ∧ flatV v = true := by
  cases x <;> first | (cases r; exact ⟨rfl, rfl⟩) | cases h
theorem flats_V {K : PySem.W.Frag} {G : Hp} : ∀ {xs : List PV} {vs : List V}, xs.all flatP = true → Reps K G xs vs → vs = xs.map vOf ∧ vs.all flatV = true
  | [], _, _, r => by cases r; exact ⟨rfl, rfl⟩
  | x :: xs, _, h, r => by
    obtain ⟨v, ws, rfl, r1, r2⟩ := r
    rw [List.all_cons, Bool.and_eq_true] at h
    obtain ⟨e1, f1⟩ := flat_V h.1 r1
    obtain ⟨e2, f2⟩ := flats_V h.2 r2
    exact ⟨by rw [e1, e2]; rfl, by rw [List.all_cons, f1, f2]; rfl⟩
def inPs (x : PV) (ys : List PV) : Option Bool := if (flatP x && ys.all flatP) = true then some (inV (vOf x) (ys.map vOf)) else none
def inP (M : Mem) (x : PV) : PV → Option Bool
  | .tup ys => inPs x ys
  | .lst ys => inPs x ys
  | .ref a => match M a with
    | some (.lst ys) => inPs x ys
    | some (.dic ks _) => (keyP x).map fun k => memK k ks
    | _ => none
  | _ => none
def bIn (neg : Bool) : F2 := fun x y M Q => ∃ b, inP M x y = some b ∧ Q (.bl (if neg then !b else b)) M
theorem oq_inG (hu : X.A.units + 64 < cLine) (neg : Bool) : OpQ X (compareOp (if neg then .NotIn else .In)) (bIn neg) := by
  intro pins s σ H a b v u Q I ra rb ⟨x, y, M, G, Q0, rx, ry, w, ⟨k, hk, q⟩, L⟩
  have sq : ∀ {p : Addr} {ys : List PV} {vs : List V}, b = .ref p → (SqL X.K H p vs ∨ SqT X.K H p vs) → Reps X.K G ys vs → inPs x ys = some k → wpAny (model X.prog X.w) X.A (compareOp (if neg then .NotIn else .In) v u) (EP X pins σ Q) X.xe s := fun {p ys vs} e hs r h => by
    unfold inPs at h
    split at h
    · rename_i hf
      rw [Bool.and_eq_true] at hf
      cases h
      obtain ⟨e1, f1⟩ := flat_V hf.1 rx
      obtain ⟨e2, f2⟩ := flats_V hf.2 r
      subst e1 e2
      cases neg with
      | false => exact op_in_seq pins s σ H _ _ v u Q I ra rb ⟨p, _, e, hs, f1, f2, give L w (x := .bl _) rfl q⟩
      | true => exact op_notIn_seq pins s σ H _ _ v u Q I ra rb ⟨p, _, e, hs, f1, f2, give L w (x := .bl _) rfl q⟩
    · cases h
  cases y with
  | tup ys =>
    obtain ⟨p, vs, e, h1, r1⟩ := ry
    exact sq e (.inr (ext_t w.sub h1)) r1 hk
  | lst ys =>
    obtain ⟨p, vs, e, h1, r1⟩ := ry
    exact sq e (.inl (SqL.of (w.sub _ _ h1))) r1 hk
  | ref p =>
    replace hk : (match M p with
      | some (.lst ys) => inPs x ys
      | some (.dic ks _) => (keyP x).map fun k => memK k ks
      | _ => none) = some k := hk
    split at hk
    · rename_i ys hm
      obtain ⟨_, vs, h1, r1⟩ := w.mem p _ hm
      exact sq ry (.inl (SqL.of h1)) r1 hk
    · rename_i ks xs hm
      obtain ⟨_, vs, h1, h2, r1⟩ := w.mem p _ hm
      cases hx : keyP x with
      | none => rw [hx] at hk; cases hk
      | some kk =>
        rw [hx] at hk
        cases hk
        have ek := keyP_V hx rx
        subst ek
        cases ry
        have hs : (valV (ks.zip vs) kk).isSome = memK kk ks := by rw [valV_zip, getX_isSome h2]
        obtain rfl : u = Value.ref p := rb
        have hu1 : X.A.units + 1 < cLine := by omega
        cases neg with
        | false => exact d_in hu1 I (DGet.k h1) ra fun s3 I3 => ⟨.bl _, H, I3, rfl, by rw [hs]; exact give L w (x := .bl _) rfl q⟩
        | true => exact d_notIn hu1 I (DGet.k h1) ra fun s3 I3 => ⟨.bl _, H, I3, rfl, by rw [hs]; exact give L w (x := .bl _) rfl q⟩
    · cases hk
  | _ => cases hk
theorem oq_in (hu : X.A.units + 64 < cLine) : OpQ X (compareOp .In) (bIn false) := oq_inG hu false
theorem oq_notIn (hu : X.A.units + 64 < cLine) : OpQ X (compareOp .NotIn) (bIn true) := oq_inG hu true

/-! ### bits -/
def bAnd : F2 := fun x y M Q => match x, y with
  | .int i, .int j => Q (.int (Builtin.bitAnd i j)) M
  | _, _ => False
def bXor : F2 := fun x y M Q => match x, y with
  | .int i, .int j => Q (.int (Builtin.bitXor i j)) M
  | _, _ => False
def bShl : F2 := fun x y M Q => match x, y with
  | .int i, .int j => CShl i j ∧ Q (.int (i * 2 ^ j.toNat)) M
  | _, _ => False
theorem oq_and : OpQ X (binaryOp .BitAnd) bAnd := opq_int0 op_and (e' := fun i j => .int (Builtin.bitAnd i j)) (fun _ _ _ _ => rfl) fun x y M Q q => by
  cases x <;> cases y <;> first | exact q.elim | exact ⟨_, _, rfl, rfl, q⟩
theorem oq_xor : OpQ X (binaryOp .BitXor) bXor := opq_int0 op_xor (e' := fun i j => .int (Builtin.bitXor i j)) (fun _ _ _ _ => rfl) fun x y M Q q => by
  cases x <;> cases y <;> first | exact q.elim | exact ⟨_, _, rfl, rfl, q⟩
theorem oq_shl : OpQ X (binaryOp .LShift) bShl := opq_int op_shlW (e' := fun i j => .int (i * 2 ^ j.toNat)) (fun _ _ _ _ => rfl) fun x y M Q q => by
  cases x <;> cases y <;> first | exact q.elim | exact ⟨_, _, rfl, rfl, q⟩
/-! ### xs += ys -/
def iAddG : F2 := fun x y M Q => match x with
  | .ref a => ∃ xs zs, M a = some (.lst xs) ∧ sq M y = some zs ∧ xs.length + zs.length ≤ sizeLine ∧ Q (.ref a) (mset M a (.lst (xs ++ zs)))
  | x => iAdd x y M Q
theorem iq_addG : OpQ X (inplaceOp .Add) iAddG := by
  intro pins s σ H a b v u Q I ra rb ⟨x, y, M, G, Q0, rx, ry, w, q, L⟩
  cases x with
  | ref p =>
    obtain ⟨xs, zs, hm, hz, hl, q⟩ := q
    cases rx
    obtain ⟨g, vs, h1, r1⟩ := w.mem p _ hm
    obtain ⟨p2, ws, e2, h2, r2⟩ := sq_H hz ry w
    exact iop_ext pins s σ H _ _ v u Q I ra rb ⟨p, p2, vs, ws, rfl, e2, h1, h2, by rw [← r1.length, ← r2.length]; exact hl, give_ref (m := .lst (xs ++ zs)) L w g ⟨_, upd_same, r1.append r2⟩ q⟩
  | _ => exact iq_add pins s σ H a b v u Q I ra rb ⟨_, y, M, G, Q0, rx, ry, w, q, L⟩

/-! ### an own class without __init__ -/
structure Mk0 (K : PySem.W.Frag) (C : Addr) : Prop where
  makes : PySem.W.makesIn K C = true
  init : PySem.W.findIn K (.ref C) "__init__" = some (some (.builtin "object.__init__"))
  kp : PySem.W.keepIn K (.ref C) = true
  top : PySem.W.mroIn K C (.type "object") = some true
def qMake0 (C : Addr) : QT := fun _ M Q _ => Q (.obj C [] []) M
theorem qe_make00 {x : Str} {C : Addr} {p : Pos} (m : Mk0 X.K C) (hm : X.mg x = some (.ref C)) (hg : Gl X x := by rfl) (hdb : (x == ("__debug__" : Str)) = false := by decide) : QE X W (.Call (.Name x p) [] [] pos) (qMake0 C) := by
  refine ⟨fun pins sh σ H Q I ⟨env, M, G, Q0, E0, S, q, L, LE⟩ => wpAny_Call_Name_kw (ld_glob I hg hm (PySem.W.callWith_K0 I.kIn m.kp ?_) hdb)⟩
  have I1 := Inv.made (C := C) I
  have hx : ((sh.heap.push PySem.W.emptyDict).push (PySem.W.instObj C sh.heap.objs.size)).get? (sh.heap.objs.size + 1) = some (PySem.W.instObj C sh.heap.objs.size) := by
    have := Heap.get?_push_size (sh.heap.push PySem.W.emptyDict) (o := PySem.W.instObj C sh.heap.objs.size) rfl
    rwa [Heap.size_push] at this
  have t1 : PySem.W.Looks (model X.prog X.w) ((sh.heap.push PySem.W.emptyDict).push (PySem.W.instObj C sh.heap.objs.size)) (typeOf (.ref (sh.heap.objs.size + 1))) (.ref C) := (PySem.W.Looks.ld hx).andThen .now
  have t2 : PySem.W.Looks (model X.prog X.w) ((sh.heap.push PySem.W.emptyDict).push (PySem.W.instObj C sh.heap.objs.size)) (isInstance (.ref (sh.heap.objs.size + 1)) (.type "object")) true := t1.andThen (PySem.W.looks_mroIn I1.kIn m.top)
  refine wpAny_call (make_map0 I.kIn m.makes m.init (fun self => PySem.W.Looks.of_pure (PySem.W.oi_bind self)) ?_)
  refine PySem.codeAny_call_builtin PySem.W.oi_plain PySem.W.entry_oi (@PySem.W.check_slot (model X.prog X.w) _ _ _ "object.__init__" "object" "__init__" (.ref (sh.heap.objs.size + 1)) [] [] _ PySem.W.oi_kind PySem.W.oi_split t2 (PySem.W.oi_args (.ref (sh.heap.objs.size + 1))) ?_)
  rw [PySem.W.oi_run]
  refine wpAny_pure (And.intro rfl ?_)
  have nd : H sh.heap.objs.size = none := I.hok.fresh (Nat.le_refl _)
  have ny : H (sh.heap.objs.size + 1) = none := I.hok.fresh (Nat.le_succ _)
  have w2 := S.wf.newH (o := .own (sh.heap.objs.size + 1)) nd
  have n2 : upd H sh.heap.objs.size (.own (sh.heap.objs.size + 1)) (sh.heap.objs.size + 1) = none := by rw [upd_ne (Nat.ne_of_gt (Nat.lt_succ_self _))]; exact ny
  exact ⟨V.ref (sh.heap.objs.size + 1), _, I1, rfl, L (.obj C [] []) M _ _ _ (Ext.new (w2.free n2)) (w2.newG n2) ⟨_, _, [], rfl, upd_same, Reps.nil⟩ q⟩
end
end TQ

namespace TQ
open PySem PySem.Spec PyProof.Rows L2
section
variable {X : Cx} {W : WX} {pos : Pos} {k : Nat} {f C : Addr} {fd : FuncData} {ps : List Str} {s : SpQ} {x m : Str} {p apos : Pos} {e o : Expr} {es : List Expr}
/-! ### o.m(..), by the class that o has -/
def MethOk (X : Cx) (m : Str) (C : Addr) (s : SpQ) : Prop := ∃ k f fd ps, Cls X.K C ∧ Meth X.K C m f ∧ FnQ X.prog X.w X.K X.mg X.base k f fd ps s ∧ Room k X.A ∧ Binds X.K fd ps []
def MethsOk (X : Cx) (m : Str) : List (Addr × SpQ) → Prop
  | [] => True
  | (C, s) :: r => MethOk X m C s ∧ MethsOk X m r
theorem mok_nil : MethsOk X m [] := trivial
theorem mok_cons {r : List (Addr × SpQ)} (c : Cls X.K C) (hm : Meth X.K C m f) (F : FnQ X.prog X.w X.K X.mg X.base k f fd ps s) (hr : Room k X.A) (hb : Binds X.K fd ps []) (t : MethsOk X m r) : MethsOk X m ((C, s) :: r) := ⟨⟨k, f, fd, ps, c, hm, F, hr, hb⟩, t⟩
theorem mok_mem : ∀ {r : List (Addr × SpQ)}, MethsOk X m r → (C, s) ∈ r → MethOk X m C s
  | [], _, h => by cases h
  | (D, u) :: r, t, h => by
    rcases List.mem_cons.mp h with h | h
    · cases h; exact t.1
    · exact mok_mem t.2 h
def mthD (tbl : List (Addr × SpQ)) (m : Str) (x : PV) (M : Mem) (R : SpQ → Prop) : Prop := ∃ C s ns xs, (C, s) ∈ tbl ∧ own M x = some (C, ns, xs) ∧ m ∉ ns ∧ R s
def qMethD (tbl : List (Addr × SpQ)) (m : Str) (to : QT) (t : QA) : QT := fun env M Q E => to env M (fun x M1 => mthD tbl m x M1 fun s => t env M1 (fun ys M2 => s (x :: ys) M2 Q E) E) E
theorem qe_methD {tbl : List (Addr × SpQ)} {to : QT} {t : QA} {pl : Sem Bool} (he : QE X W o to) (hT : MethsOk X m tbl) (tk : Takes X W) (ha : QPA X W (e :: es) t)
    (hst : starEach (e :: es) X.env = (false, eval e X.env) :: starEach es X.env := by rfl) (hpl : (backTo pos (starEach es X.env)).any (·.1) = false := by rfl)
    (ht : eval (.Call (.Attribute o m apos) (e :: es) [] pos) X.env = (do
      let recv ← eval o X.env
      standAt apos.atName
      let (g, first) ← holding [recv] (getMethod recv m pl)
      callWith pos g first (backTo pos (starEach (e :: es) X.env)) (backToKw pos (keywordEach [] X.env))) := by rfl) :
    QE X W (.Call (.Attribute o m apos) (e :: es) [] pos) (qMethD tbl m to t) := by
  refine ⟨fun pins sh σ H Q I ⟨env, M, G, Q0, E0, S, q, L, LE⟩ => PySem.W.methodCall_KW (pl := pl) (thn (he.run pins sh σ H (fun v H1 => ∃ (C : Addr) (s : SpQ) (a dx : Addr) (fs : List (Str × V)), (C, s) ∈ tbl ∧ v = .ref a ∧ H1 a = some (.ins C dx fs) ∧ fs.lookup m = none ∧ tieA X.K W t σ H1 fun vs H2 => spQ X.K s (v :: vs) H2 Q (WE W σ)) I ?_) fun u s1 ⟨v, H1, I1, rv, C, s, a, dx, fs, hC, ev, ea, l, q1⟩ => ?_) ht⟩
  · refine ⟨env, M, G, _, E0, S, q, fun x M1 v H1 G1 e1 w1 r1 q1 => ?_, LE⟩
    obtain ⟨C, s, ns, xs, hC, h1, hn, q1⟩ := q1
    obtain ⟨a, dx, vs, h3, h4, h5⟩ := own_H h1 r1 w1
    refine ⟨C, s, a, dx, _, hC, h3, h4, lk_none hn, env, M1, G1, _, E0, S.to e1 w1, q1, fun ys M2 us H2 G2 e2 w2 r2 q2 => ?_, LE.mono e1⟩
    exact ⟨x :: ys, M2, G2, Q0, E0, Reps.cons (Rep.mono e2 _ _ r1) r2, w2, q2, L.mono (e1.trans e2), LE.mono (e1.trans e2)⟩
  · subst ev
    obtain rfl : u = Value.ref a := rv
    obtain ⟨k, f, fd, ps, c, hm, F, hr, hb⟩ := mok_mem hT hC
    refine getmeth_ok I1 ea c hm l (PySem.W.callWith_K (first := [.ref a]) (h₀ := X.base) I.ok.mod.kin hm.kp (thn (ha.run pos pins s1 σ H1 _ I1 q1) fun us s2 ⟨vs, H2, I2, r, q2⟩ => ⟨I2.kIn, ?_⟩) hst hpl)
    exact run_q (us := .ref a :: us) (vs := .ref a :: vs) (ds := []) (dvs := []) F hr hb .nil tk I2 (.cons rfl r) (by rw [List.append_nil]; exact q2)
theorem qe_methD0 {tbl : List (Addr × SpQ)} {to : QT} {pl : Sem Bool} (he : QE X W o to) (hT : MethsOk X m tbl) (tk : Takes X W)
    (ht : eval (.Call (.Attribute o m apos) [] [] pos) X.env = (do
      let recv ← eval o X.env
      standAt apos.atName
      let (g, first) ← holding [recv] (getMethod recv m pl)
      callWith pos g first (backTo pos (starEach [] X.env)) (backToKw pos (keywordEach [] X.env))) := by rfl) :
    QE X W (.Call (.Attribute o m apos) [] [] pos) (qMethD tbl m to qNil) := by
  refine ⟨fun pins sh σ H Q I ⟨env, M, G, Q0, E0, S, q, L, LE⟩ => PySem.W.methodCall_KW (pl := pl) (thn (he.run pins sh σ H (fun v H1 => ∃ (C : Addr) (s : SpQ) (a dx : Addr) (fs : List (Str × V)), (C, s) ∈ tbl ∧ v = .ref a ∧ H1 a = some (.ins C dx fs) ∧ fs.lookup m = none ∧ spQ X.K s [v] H1 Q (WE W σ)) I ?_) fun u s1 ⟨v, H1, I1, rv, C, s, a, dx, fs, hC, ev, ea, l, q1⟩ => ?_) ht⟩
  · refine ⟨env, M, G, _, E0, S, q, fun x M1 v H1 G1 e1 w1 r1 q1 => ?_, LE⟩
    obtain ⟨C, s, ns, xs, hC, h1, hn, q1⟩ := q1
    obtain ⟨a, dx, vs, h3, h4, h5⟩ := own_H h1 r1 w1
    exact ⟨C, s, a, dx, _, hC, h3, h4, lk_none hn, [x], M1, G1, Q0, E0, Reps.one r1, w1, q1, L.mono e1, LE.mono e1⟩
  · subst ev
    obtain rfl : u = Value.ref a := rv
    obtain ⟨k, f, fd, ps, c, hm, F, hr, hb⟩ := mok_mem hT hC
    refine getmeth_ok I1 ea c hm l (PySem.W.callWith_K0 (first := [.ref a]) I1.kIn hm.kp ?_)
    exact run_q (us := [.ref a]) (vs := [.ref a]) (ds := []) (dvs := []) F hr hb .nil tk I1 (.cons rfl .nil) (by rw [List.append_nil]; exact q1)
/-! ### new instances that are written -/
def qMakeW (C : Addr) (s : SpQ) (dps : List PV) (t : QA) : QT := fun env M Q E => t env M (fun xs M1 => ∀ x, M1 x = none → s (.ref x :: (xs ++ dps)) (mset M1 x (.ins C [] [])) (fun v M2 => v = .non ∧ Q (.ref x) M2) E) E
theorem qe_makeW {t : QA} {dvs : List V} {dps : List PV} (Mk1 : Mk X.K C f) (F : FnQ X.prog X.w X.K X.mg X.base k f fd ps s) (hr : Room (k + 1) X.A) (hm : X.mg x = some (.ref C)) (hb : ∃ ds, Vals dvs ds ∧ Binds X.K fd ps ds)
    (hp : ∀ G, Reps X.K G dps dvs) (tk : Takes X W) (ha : QPA X W (e :: es) t) (hg : Gl X x := by rfl)
    (hdb : (x == ("__debug__" : Str)) = false := by decide) (he : starEach (e :: es) X.env = (false, eval e X.env) :: starEach es X.env := by rfl) (hpl : (backTo pos (starEach es X.env)).any (·.1) = false := by rfl) :
    QE X W (.Call (.Name x p) (e :: es) [] pos) (qMakeW C s dps t) := by
  obtain ⟨ds, hd, hb⟩ := hb
  refine ⟨fun pins sh σ H Q I ⟨env, M, G, Q0, E0, S, q, L, LE⟩ => wpAny_Call_Name_kw (ld_glob I hg hm (PySem.W.callWith_K (h₀ := X.base) I.ok.mod.kin Mk1.kp (thn (ha.run pos pins sh σ H (fun vs H1 => ∃ xs M1 G1, Ext G G1 ∧ Wf X.K M1 H1 G1 ∧ Reps X.K G1 xs vs ∧ ∀ x, M1 x = none → s (.ref x :: (xs ++ dps)) (mset M1 x (.ins C [] [])) (fun v M2 => v = .non ∧ Q0 (.ref x) M2) E0) I ?_) fun us s1 ⟨vs, H1, I1, r, q⟩ => ⟨I1.kIn, ?_⟩) he hpl) hdb)⟩
  · exact ⟨env, M, G, _, E0, S, q, fun xs M1 vs H1 G1 e1 w1 r1 q1 => ⟨xs, M1, G1, e1, w1, r1, q1⟩, LE⟩
  · obtain ⟨xs, M1, G1, e1, w1, r1, q⟩ := q
    refine run_makeQ Mk1 F hr hb hd tk I1 r fun y dx ny nd ne => ?_
    have w2 := w1.newH (o := .own y) nd
    have n2 : upd H1 dx (.own y) y = none := by rw [upd_ne ne.symm]; exact ny
    have w3 : Wf X.K (mset M1 y (.ins C [] [])) (upd (upd H1 dx (.own y)) y (.ins C dx [])) G1 := w2.put (w2.free n2) ⟨dx, [], upd_same, Reps.nil⟩
    refine ⟨.ref y :: (xs ++ dps), _, G1, _, E0, Reps.cons (x := .ref y) rfl (r1.append (hp G1)), w3, q y (w1.freeM ny), fun z M' v H' G' e w r q => ?_, LE.mono e1⟩
    obtain ⟨rfl, q⟩ := q
    exact ⟨r, L (.ref y) M' _ H' G' (e1.trans e) w rfl q⟩
/-! ### raise C('..') -/
def sRaise (C : Addr) : QS := fun D env M => D.ex (.ref C) none env M
structure ExcX (K : PySem.W.Frag) (C : Addr) : Prop where
  x : PySem.W.excIn K C [.type "ValueError", .type "Exception", .type "BaseException", .type "object"] "ValueError.__new__" = true
  kp : PySem.W.keepIn K (.ref C) = true
  b : PySem.W.subIn K (.ref C) (.type "BaseException") = some true
  t : PySem.W.typeIn K (.ref C) = some (.type "type")
  i : PySem.W.isClsIn K C = true
theorem qs_raise {msg : Str} {j : Nat} {p2 rpos : Pos} (c : ExcX X.K C) (hc : X.calm = true) (tk : Takes X W) (hm : X.mg x = some (.ref C)) (hg : Gl X x := by rfl) (hdb : (x == ("__debug__" : Str)) = false := by decide) :
    QPS X W (.Raise (some (.Call (.Name x p) [.Constant (.str msg) j p2] [] rpos)) none pos) (sRaise C) :=
  (ps_raise hc tk (pmk_own PySem.F.excBase_ValueError c.x hm c.kp (raises_own c.b c.t) hg hdb)).imp fun D σ H ⟨env, M, G, D0, S, q, L⟩ => L.ex _ none env M none σ H G (Ext.refl G) S rfl q
def sNever : QS := fun _ _ _ => False
theorem qs_never {st : Stmt} : QPS X W st sNever := ps_never.imp fun D σ H ⟨env, M, G, D0, S, q, L⟩ => q.elim
/-! ### a tuple of the module's top; the rest -/
theorem qe_gtup {a : Addr} {ys : List PV} (hm : X.mg x = some (.ref a)) (hk : ∀ G, ∃ vs, SqT X.K G a vs ∧ Reps X.K G ys vs) (hg : Gl X x := by rfl) (hd : (x == ("__debug__" : Str)) = false := by decide) : QE X W (.Name x pos) (qC (.tup ys)) :=
  qe_glob hm (v := .ref a) rfl (fun G => by obtain ⟨vs, h1, h2⟩ := hk G; exact ⟨a, vs, rfl, h1, h2⟩) hg hd
end
end TQ

namespace TQ
open PySem PySem.Spec PyProof.Rows L2 TN
section
variable {X : Cx} {W : WX} {pos : Pos}
theorem hu1 {k : Nat} {A : Around} (hr : Room k A) : A.units + 1 < cLine := by have := hr.units; omega
/-! ### texts by their methods -/
def swP (x y : PV) (M : Mem) (Q : PK) : Prop := ∃ a b, x = .str a ∧ y = .str b ∧ Q (.bl (Txt.startswith a b)) M
def qSw (to te : QT) : QT := fun env M Q E => to env M (fun x M1 => (∃ a, x = .str a) ∧ te env M1 (fun y M2 => swP x y M2 Q) E) E
theorem qe_startswith {o e : Expr} {to te : QT} {apos : Pos} (ho : QE X W o to) (he : QE X W e te) (hs : starEach [e] X.env = [(false, eval e X.env)] := by rfl) (hbase : attributeBase o "startswith" X.env (eval o X.env) = eval o X.env := by rfl) (hline : (apos.endLine == pos.line) = true := by rfl) :
    QE X W (.Call (.Attribute o "startswith" apos) [e] [] pos) (qSw to te) :=
  (pe_m1 PySem.F.slot_str_startswith PySem.F.type_str_startswith mt_startswith ho he hs hbase hline).imp fun σ H Q ⟨env, M, G, Q0, E0, S, q, L, LE⟩ => by
    refine ⟨env, M, G, _, E0, S, q, fun x M1 v H1 G1 e1 w1 r1 q1 => ?_, LE⟩
    obtain ⟨⟨a, rfl⟩, q1⟩ := q1
    cases r1
    refine ⟨⟨a, rfl⟩, env, M1, G1, _, E0, S.to e1 w1, q1, fun y M2 u H2 G2 e2 w2 r2 q2 => ?_, LE.mono e1⟩
    obtain ⟨a', b, ea, rfl, q2⟩ := q2
    cases ea
    cases r2
    exact ⟨_, _, rfl, rfl, give (L.mono (e1.trans e2)) w2 (x := .bl _) rfl q2⟩
/-! ### xs[i] = e -/
def lsetP (v x i : PV) (M : Mem) (Q : Mem → Prop) : Prop := ∃ a xs k j, x = .ref a ∧ i = .int k ∧ M a = some (.lst xs) ∧ ixN xs.length k = some j ∧ Q (mset M a (.lst (xs.set j v)))
def sLSet (td ty tv : QT) : QS := fun D env M => tv env M (fun v M1 => td env M1 (fun x M2 => ty env M2 (fun k M3 => lsetP v x k M3 fun M4 => D.nx env M4) (exE D env)) (exE D env)) (exE D env)
theorem qs_lset {o i value : Expr} {pos' : Pos} {td ty tv : QT} (ho : QE X W o td) (hi : QE X W i ty) (hv : QE X W value tv) (hs : swapsWithSole [.Subscript o i pos'] value pos.line X.env = pure false := by rfl) (hw : swappedStores [.Subscript o i pos'] value X.env = pure none := by rfl)
    (h1 : (assignEach [.Subscript o i pos'] X.env).map (·.2) = [assign (.Subscript o i pos') X.env] := by rfl)
    (ha : ∀ v, assign (.Subscript o i pos') X.env v = (do
      let tv1 ← holding [v] (eval o X.env)
      let tv2 ← holding [v, tv1] (eval i X.env)
      standAt pos'
      holding [v, tv1, tv2] (setItem tv1 tv2 v)
      release [v, tv1, tv2] []) := by intro _; rfl) : QPS X W (.Assign [.Subscript o i pos'] value pos) (sLSet td ty tv) :=
  (ps_asg hv (pg_sub ho hi set_list ha) hs hw h1).imp fun D σ H ⟨env, M, G, D0, S, q, L⟩ => by
    refine ⟨env, M, G, _, _, S, q, fun v M1 vv H1 G1 e1 w1 r1 q1 => ?_, liftX_E S.env L.ex⟩
    refine ⟨env, M1, G1, _, _, S.to e1 w1, q1, fun x M2 u H2 G2 e2 w2 r2 q2 => ?_, (liftX_E S.env L.ex).mono e1⟩
    refine ⟨env, M2, G2, _, _, S.to (e1.trans e2) w2, q2, fun k M3 kv H3 G3 e3 w3 r3 q3 => ?_, (liftX_E S.env L.ex).mono (e1.trans e2)⟩
    obtain ⟨a, xs, k, j, rfl, rfl, hm, hj, q3⟩ := q3
    cases r2; cases r3
    obtain ⟨g, vs, h1, r⟩ := w3.mem a _ hm
    refine ⟨a, vs, k, j, rfl, rfl, h1, by rw [← r.length]; exact hj, ?_⟩
    have w4 := w3.put (p := a) (o := .lst (vs.set j vv)) (m := .lst (xs.set j v)) g (mok_lst (r.set j (Rep.mono (e2.trans e3) _ _ r1)))
    exact L.nx env _ σ _ G3 ((e1.trans e2).trans e3) ⟨S.env.mono ((e1.trans e2).trans e3), w4⟩ q3
def cDict : FC := fun xs M Q => match xs with
  | [x] => ∃ (ys : List PV) (kvs : List (Key × PV)), sqA M x = some ys ∧ ys = kvs.map (fun kv => PV.tup [match kv.1 with
    | .inl i => .int i
    | .inr s => .str s, kv.2]) ∧ (kvs.map (·.1)).Nodup ∧ ∀ p, M p = none → Q (.ref p) (mset M p (.dic (kvs.map (·.1)) (kvs.map (·.2))))
  | _ => False
def cList : FC := fun xs M Q => match xs with
  | [.tup ys] => Q (.lst ys) M
  | [x] => match sqA M x with
    | some ys => Q (.lst ys) M
    | none => False
  | _ => False
theorem cq_list : CallQ X (.type "list") cList := by
  intro pins s σ H vs us Q I r ⟨xs, M, G, Q0, rx, w, q, L⟩
  unfold cList at q
  split at q
  · obtain ⟨v, rfl, r1⟩ := reps1 rx
    obtain ⟨p, ws, rfl, h1, r2⟩ := r1
    exact call_list_of pins s σ H _ us Q I r ⟨p, ws, rfl, .inr (ext_t w.sub h1), fun l hl => give_lst L w hl r2 q⟩
  · rename_i x _
    obtain ⟨v, rfl, r1⟩ := reps1 rx
    cases hx : sqA M x with
    | none => rw [hx] at q; exact q.elim
    | some ys =>
      rw [hx] at q
      obtain ⟨p, ws, rfl, h1, r2⟩ := sqA_H hx r1 w
      exact call_list_of pins s σ H _ us Q I r ⟨p, ws, rfl, .inl h1, fun l hl => give_lst L w hl r2 q⟩
  · exact q.elim
end
end TQ
namespace TN
open PySem PySem.Spec PyProof.Rows L2 TQ TM
section
variable {K : PySem.W.Frag} {env : Sl} {M : Mem} {Q : PK} {E : EK} {D : QEnds} {x y : PV} {xs : List PV}
/-! ### written texts -/
theorem ofS {a b : String} : (Str.ofString a = Str.ofString b) = (a = b) := propext ⟨fun h => by
  rw [Str.ofString_eq_toList, Str.ofString_eq_toList] at h
  have h2 : a.toList.map Char.toNat = b.toList.map Char.toNat := by
    have := congrArg (fun s : Str => s.cps.toList) h
    simpa using this
  have inj : ∀ (l m : List Char), l.map Char.toNat = m.map Char.toNat → l = m := fun l => by
    induction l with
    | nil => intro m hm; cases m with
      | nil => rfl
      | cons _ _ => cases hm
    | cons c l ih => intro m hm; cases m with
      | nil => cases hm
      | cons d m =>
        rw [List.map_cons, List.map_cons, List.cons.injEq] at hm
        have hc : c = d := Char.ext (UInt32.toNat_inj.mp hm.1)
        rw [hc, ih m hm.2]
  exact String.toList_inj.mp (inj _ _ h2), fun h => by rw [h]⟩
/-! ### the same, run from the head -/
def stoB (K : PySem.W.Frag) (f : Str) (y x : PV) (M : Mem) [Q : Box (Mem → Prop)] : Prop := stoP K f y x M Q.v
def putB (k v x : PV) (M : Mem) [Q : Box (Mem → Prop)] : Prop := putP k v x M Q.v
def lsetB (v x i : PV) (M : Mem) [Q : Box (Mem → Prop)] : Prop := lsetP v x i M Q.v
def dicB (M : Mem) [Q : Box PK] : Prop := ∀ p, M p = none → Q.v (.ref p) (mset M p (.dic [] []))
def inB (neg : Bool) (o : Option Bool) (M : Mem) [Q : Box PK] : Prop := ∃ b, o = some b ∧ Q.v (.bl (if neg then !b else b)) M
def mdB (tbl : List (Addr × SpQ)) (m : Str) (x : PV) (M : Mem) [R : Box (SpQ → Prop)] : Prop := mthD tbl m x M R.v
def makW (C : Addr) (s : SpQ) (xs : List PV) (M : Mem) [Q : Box PK] [E : Box EK] : Prop := ∀ x, M x = none → s (.ref x :: xs) (mset M x (.ins C [] [])) (fun v M2 => v = .non ∧ Q.v (.ref x) M2) E.v
def raiP (C : Addr) (D : QEnds) (env : Sl) (M : Mem) : Prop := D.ex (.ref C) none env M
def iaddB (x y : PV) (M : Mem) [Q : Box PK] : Prop := iAddG x y M Q.v
theorem own_ref {a C : Addr} {ns : List Str} {os : List PV} (h : M a = some (.ins C ns os)) : own M (.ref a) = some (C, ns, os) := by
  show (match M a with
    | some (.ins C ns vs) => some (C, ns, vs)
    | _ => none) = _
  rw [h]
theorem e_sFldQ {to tv : QT} {f : Str} : sFldQ K to tv f D env M = tv env M (fun y M1 => to env M1 (fun x M2 => @stoB K f y x M2 ⟨fun M3 => D.nx env M3⟩) (exE D env)) (exE D env) := rfl
theorem e_sDPutQ {td ty tv : QT} : sDPutQ td ty tv D env M = tv env M (fun v M1 => td env M1 (fun x M2 => ty env M2 (fun k M3 => @putB k v x M3 ⟨fun M4 => D.nx env M4⟩) (exE D env)) (exE D env)) (exE D env) := rfl
theorem e_sLSet {td ty tv : QT} : sLSet td ty tv D env M = tv env M (fun v M1 => td env M1 (fun x M2 => ty env M2 (fun k M3 => @lsetB v x k M3 ⟨fun M4 => D.nx env M4⟩) (exE D env)) (exE D env)) (exE D env) := rfl
theorem e_qDict0 : qDict0 env M Q E = @dicB M ⟨Q⟩ := rfl
theorem dicB_of {Q : Box PK} (h : ∀ p, M p = none → Q.v (.ref p) (mset M p (.dic [] []))) : @dicB M Q := h
theorem e_bIn {neg : Bool} : bIn neg x y M Q = @inB neg (inP M x y) M ⟨Q⟩ := rfl
theorem inB_some {neg b : Bool} {Q : Box PK} : @inB neg (some b) M Q = Q.v (.bl (if neg then !b else b)) M := propext ⟨fun ⟨_, h, q⟩ => by cases h; exact q, fun q => ⟨_, rfl, q⟩⟩
theorem inB_f {b : Bool} {Q : Box PK} : @inB false (some b) M Q = Q.v (.bl b) M := inB_some
theorem inB_t {b : Bool} {Q : Box PK} : @inB true (some b) M Q = Q.v (.bl (!b)) M := inB_some
theorem inP_tup : inP M x (.tup xs) = inPs x xs := rfl
theorem inP_lst : inP M x (.lst xs) = inPs x xs := rfl
theorem inP_rl {a : Addr} (h : M a = some (.lst xs)) : inP M x (.ref a) = inPs x xs := by
  show (match M a with
    | some (.lst ys) => inPs x ys
    | some (.dic ks _) => (keyP x).map fun k => memK k ks
    | _ => none) = _
  rw [h]
theorem inP_rd {a : Addr} {ks : List Key} {vs : List PV} (h : M a = some (.dic ks vs)) : inP M x (.ref a) = (keyP x).map fun k => memK k ks := by
  show (match M a with
    | some (.lst ys) => inPs x ys
    | some (.dic ks _) => (keyP x).map fun k => memK k ks
    | _ => none) = _
  rw [h]
theorem inPs_nil_s {s : Str} : inPs (.str s) [] = some false := rfl
theorem inPs_nil_i {s : Int} : inPs (.int s) [] = some false := rfl
theorem all_flat_s : ∀ {ss : List Str}, (ss.map PV.str).all flatP = true
  | [] => rfl
  | s :: ss => all_flat_s (ss := ss)
theorem all_flat_i : ∀ {ss : List Int}, (ss.map PV.int).all flatP = true
  | [] => rfl
  | s :: ss => all_flat_i (ss := ss)
theorem inPs_s {s : Str} {ss : List Str} : inPs (.str s) (ss.map PV.str) = some (decide (s ∈ ss)) := by
  unfold inPs
  rw [if_pos (by rw [all_flat_s]; rfl)]
  congr 1
  show ((ss.map PV.str).map vOf).any (fun y => eqV y (.str s)) = _
  induction ss with
  | nil => rfl
  | cons a ss ih =>
    rw [List.map_cons, List.map_cons, List.any_cons, ih]
    show ((a == s) || _) = _
    by_cases h : a = s
    · subst h; simp
    · have : (a == s) = false := by simpa using h
      rw [this, Bool.false_or]
      have h2 : ¬ s = a := fun z => h z.symm
      simp [h2]
theorem inPs_i {s : Int} {ss : List Int} : inPs (.int s) (ss.map PV.int) = some (decide (s ∈ ss)) := by
  unfold inPs
  rw [if_pos (by rw [all_flat_i]; rfl)]
  congr 1
  show ((ss.map PV.int).map vOf).any (fun y => eqV y (.int s)) = _
  induction ss with
  | nil => rfl
  | cons a ss ih =>
    rw [List.map_cons, List.map_cons, List.any_cons, ih]
    show ((a == s) || _) = _
    by_cases h : a = s
    · subst h; simp
    · have : (a == s) = false := by simpa using h
      rw [this, Bool.false_or]
      have h2 : ¬ s = a := fun z => h z.symm
      simp [h2]
theorem e_bAnd {i j : Int} : bAnd (.int i) (.int j) M Q = Q (.int (Builtin.bitAnd i j)) M := rfl
theorem e_bXor {i j : Int} : bXor (.int i) (.int j) M Q = Q (.int (Builtin.bitXor i j)) M := rfl
theorem e_bShl {i j : Int} : bShl (.int i) (.int j) M Q = (CShl i j ∧ Q (.int (i * 2 ^ j.toNat)) M) := rfl
theorem e_iAddG : iAddG x y M Q = @iaddB x y M ⟨Q⟩ := rfl
theorem iadd_i {i j : Int} {Q : Box PK} : @iaddB (.int i) (.int j) M Q = Q.v (.int (i + j)) M := rfl
theorem iadd_s {i j : Str} {Q : Box PK} : @iaddB (.str i) (.str j) M Q = (i.length + j.length ≤ sizeLine ∧ Q.v (.str (i ++ j)) M) := rfl
theorem iadd_ref {a : Addr} {zs : List PV} {Q : Box PK} (h : M a = some (.lst xs)) (hz : sq M y = some zs) (hl : xs.length + zs.length ≤ sizeLine) (q : Q.v (.ref a) (mset M a (.lst (xs ++ zs)))) : @iaddB (.ref a) y M Q := ⟨xs, zs, h, hz, hl, q⟩
theorem iadd_mset {a : Addr} {zs : List PV} {Q : Box PK} : @iaddB (.ref a) (.lst zs) (mset M a (.lst xs)) Q = (xs.length + zs.length ≤ sizeLine ∧ Q.v (.ref a) (mset M a (.lst (xs ++ zs)))) := propext
  ⟨fun ⟨_, _, h, hz, hl, q⟩ => by rw [mset_same] at h; cases h; cases hz; rw [mset_mset] at q; exact ⟨hl, q⟩, fun ⟨hl, q⟩ => ⟨_, _, mset_same, rfl, hl, by rw [mset_mset]; exact q⟩⟩
theorem isN_i {i : Int} : bIsN false (.int i) .non M Q = Q (.bl false) M := rfl
theorem notN_i {i : Int} : bIsN true (.int i) .non M Q = Q (.bl true) M := rfl
theorem isN_s {i : Str} : bIsN false (.str i) .non M Q = Q (.bl false) M := rfl
theorem notN_s {i : Str} : bIsN true (.str i) .non M Q = Q (.bl true) M := rfl
theorem isN_b {i : Bool} : bIsN false (.bl i) .non M Q = Q (.bl false) M := rfl
theorem notN_b {i : Bool} : bIsN true (.bl i) .non M Q = Q (.bl true) M := rfl
theorem isN_o {C : Addr} {ns : List Str} {os : List PV} : bIsN false (.obj C ns os) .non M Q = Q (.bl false) M := rfl
theorem notN_o {C : Addr} {ns : List Str} {os : List PV} : bIsN true (.obj C ns os) .non M Q = Q (.bl true) M := rfl
theorem isN_r {a : Addr} : bIsN false (.ref a) .non M Q = Q (.bl false) M := rfl
theorem notN_r {a : Addr} : bIsN true (.ref a) .non M Q = Q (.bl true) M := rfl
theorem isN_t {os : List PV} : bIsN false (.tup os) .non M Q = Q (.bl false) M := rfl
theorem notN_t {os : List PV} : bIsN true (.tup os) .non M Q = Q (.bl true) M := rfl
theorem isN_l {os : List PV} : bIsN false (.lst os) .non M Q = Q (.bl false) M := rfl
theorem notN_l {os : List PV} : bIsN true (.lst os) .non M Q = Q (.bl true) M := rfl
theorem isN_n : bIsN false .non .non M Q = Q (.bl true) M := rfl
theorem notN_n : bIsN true .non .non M Q = Q (.bl false) M := rfl
theorem sl_lst {lo hi : Option Int} : bSl lo hi (.lst xs) M Q = Q (.lst ((xs.drop (HT.sIx xs.length 0 lo)).take (HT.sIx xs.length xs.length hi - HT.sIx xs.length 0 lo))) M := rfl
theorem e_qMake0 {C : Addr} : qMake0 C env M Q E = Q (.obj C [] []) M := rfl
theorem e_qMethD {tbl : List (Addr × SpQ)} {m : Str} {to : QT} {t : QA} : qMethD tbl m to t env M Q E = to env M (fun x M1 => @mdB tbl m x M1 ⟨fun s => t env M1 (fun ys M2 => @callP s (x :: ys) M2 ⟨Q⟩ ⟨E⟩) E⟩) E := rfl
theorem mdB_of {tbl : List (Addr × SpQ)} {m : Str} {C : Addr} {s : SpQ} {ns : List Str} {os : List PV} {R : Box (SpQ → Prop)} (h : (C, s) ∈ tbl) (o : own M x = some (C, ns, os)) (hm : m ∉ ns) (q : R.v s) : @mdB tbl m x M R := ⟨C, s, ns, os, h, o, hm, q⟩
theorem e_qMakeW {C : Addr} {s : SpQ} {dps : List PV} {t : QA} : qMakeW C s dps t env M Q E = t env M (fun xs M1 => @makW C s (xs ++ dps) M1 ⟨Q⟩ ⟨E⟩) E := rfl
theorem makW_of {C : Addr} {s : SpQ} {Q : Box PK} {E : Box EK} (h : ∀ x, M x = none → s (.ref x :: xs) (mset M x (.ins C [] [])) (fun v M2 => v = .non ∧ Q.v (.ref x) M2) E.v) : @makW C s xs M Q E := h
theorem e_sRaise {C : Addr} : sRaise C D env M = D.ex (.ref C) none env M := rfl
theorem e_qSw {to te : QT} : qSw to te env M Q E = to env M (fun x M1 => (∃ a, x = .str a) ∧ te env M1 (fun y M2 => swP x y M2 Q) E) E := rfl
def strP (x : PV) (R : Prop) : Prop := (∃ a, x = .str a) ∧ R
theorem e_qSw2 {to te : QT} : qSw to te env M Q E = to env M (fun x M1 => strP x (te env M1 (fun y M2 => swP x y M2 Q) E)) E := rfl
theorem strP_s {a : Str} {R : Prop} : strP (.str a) R = R := propext ⟨fun h => h.2, fun h => ⟨⟨_, rfl⟩, h⟩⟩
theorem swP_s {a b : Str} : swP (.str a) (.str b) M Q = Q (.bl (Txt.startswith a b)) M := propext ⟨fun ⟨_, _, h1, h2, q⟩ => by cases h1; cases h2; exact q, fun q => ⟨_, _, rfl, rfl, q⟩⟩
theorem sto_ins {f : Str} {a C : Addr} {ns : List Str} {os : List PV} {Q : Box (Mem → Prop)} (h : M a = some (.ins C ns os)) (c : Cls K C) (n : NoAttr K C f) (l1 : ns.length = os.length) (l2 : ns.length < 1000) (q : Q.v (mset M a (.ins C (putN f ns) (putX f y ns os)))) : @stoB K f y (.ref a) M Q :=
  ⟨a, C, ns, os, rfl, h, ⟨c, n⟩, l1, l2, q⟩
theorem put_dic {k : PV} {kk : Key} {a : Addr} {ks : List Key} {vs : List PV} {Q : Box (Mem → Prop)} (h : M a = some (.dic ks vs)) (hk : keyP k = some kk) (nd : ks.Nodup) (l : ks.length < sizeLine) (q : Q.v (mset M a (.dic (putN kk ks) (putX kk y ks vs)))) : @putB k y (.ref a) M Q := ⟨a, ks, vs, kk, rfl, h, hk, nd, l, q⟩
theorem lset_lst {a : Addr} {k : Int} {j : Nat} {Q : Box (Mem → Prop)} (h : M a = some (.lst xs)) (hk : ixN xs.length k = some j) (q : Q.v (mset M a (.lst (xs.set j y)))) : @lsetB y (.ref a) (.int k) M Q := ⟨a, xs, k, j, rfl, rfl, h, hk, q⟩
theorem s_fldq {to tv : QT} {f : Str} {u : QS} : sSeq (sFldQ K to tv f) u D env M = sFldQ K to tv f { D with nx := u D } env M := rfl
theorem s_dput {td ty tv : QT} {u : QS} : sSeq (sDPutQ td ty tv) u D env M = sDPutQ td ty tv { D with nx := u D } env M := rfl
theorem s_lset {td ty tv : QT} {u : QS} : sSeq (sLSet td ty tv) u D env M = sLSet td ty tv { D with nx := u D } env M := rfl
end
end TN

namespace TQ
open PySem PySem.Spec PyProof.Rows L2
/-! comprehensions whose list is written later -/
def lcQM (items : List PV) (slots : PV → Option Sl) (tt : QB) (te : QT) (M1 : Mem) (Q : PK) : Prop := items.length ≤ 100000 ∧ ∃ r : PV → Option PV,
  (∀ x ∈ items, ∀ M2, MExt M1 M2 → ∃ env2, slots x = some env2 ∧ lcEl tt te env2 M2 (r x)) ∧ ∀ D, M1 D = none → Q (.ref D) (mset M1 D (.lst (items.filterMap r)))
def qLcLM (j : Nat) (vs : List Nat) (tl : QT) (tt : QB) (te : QT) : QT := fun env M Q E => tl env M (fun x M1 => match sqA M1 x with
  | some items => lcQM items (fun y => some ((wipeQ env vs).set j (some y))) tt te M1 Q
  | none => False) E
def qLcR1M (j : Nat) (vs : List Nat) (ta : QA) (tt : QB) (te : QT) : QT := fun env M Q E => ta env M (fun xs M1 => ∃ hi, xs = [.int hi] ∧ (-(2 ^ 62) ≤ hi ∧ hi < 2 ^ 62) ∧
  lcQM ((List.range hi.toNat).map fun i => .int (i : Nat)) (fun y => some ((wipeQ env vs).set j (some y))) tt te M1 Q) E
section
variable {X : Cx} {W : WX} {pos : Pos}
theorem lc_endM {G1 H : Hp} {M1 : Mem} {D : Addr} {items : List PV} {r : PV → Option PV} {Q0 : PK} {Q : VK} (L : LiftV X.K G1 Q0 Q) (p : lcP X.K G1 M1 D items r items.length H) (q : Q0 (.ref D) (mset M1 D (.lst (items.filterMap r)))) : Q (.ref D) H := by
  obtain ⟨G', e1, w⟩ := p
  rw [List.take_length] at w
  exact L (.ref D) _ _ H _ e1 w rfl q
theorem lcLM_imp {own : List Nat} {j : Nat} {tl : QT} {tt : QB} {te : QT} {σ : L2.St} {H : Hp} {Q : VK} (hj : j ∈ own) (h : tie X.K W (qLcLM j own tl tt te) σ H Q) : tLc (iList X.K (tie X.K W tl)) (gName j) (tieB X.K W0 tt) (tie X.K W0 te) own σ H Q := by
    obtain ⟨env, M, G, Q0, E0, S, q, L, LE⟩ := h
    refine ⟨env, M, G, _, E0, S, q, fun y M1 v H1 G1 e1 w1 r1 q1 => ?_, LE⟩
    dsimp only at q1
    cases hs : sqA M1 y with
    | none => rw [hs] at q1; exact q1.elim
    | some items =>
      rw [hs] at q1
      obtain ⟨hn, r, hr, q1⟩ := q1
      obtain ⟨p, vs, rfl, h1, rs⟩ := sqA_H hs r1 w1
      refine ⟨p, rfl, ⟨_, h1⟩, fun D hD => ?_⟩
      have hM := w1.freeM hD
      -- the items as they stand at any turn
      have src : ∀ {H' G' : Hp} {acc : List PV}, Ext G1 G' → Wf X.K (mset M1 D (.lst acc)) H' G' → ∃ ws, SqL X.K H' p ws ∧ Reps X.K G' items ws := fun {H' G' acc} e w => by
        have hs2 : sqA (mset M1 D (.lst acc)) y = some items := by
          cases y with
          | ref a =>
            have ha : M1 a = some (.lst items) := ml_some (show ml (M1 a) = some items from hs)
            show ml (mset M1 D (.lst acc) a) = some items
            rw [mset_ne (by rintro rfl; rw [hM] at ha; cases ha)]
            exact hs
          | _ => exact hs
        obtain ⟨p', ws, ep, h2, r2⟩ := sqA_H hs2 (Rep.mono e _ _ r1) w
        cases ep
        exact ⟨ws, h2, r2⟩
      refine ⟨fun i m H => m = items.length - i ∧ i ≤ items.length ∧ lcP X.K G1 M1 D items r i H, ⟨items.length, by omega, Nat.zero_le _, G1, Ext.refl _, ?_⟩, fun i m H ⟨hm, hi, hp⟩ => ?_⟩
      · exact w1.put (w1.free hD) (mok_lst Reps.nil)
      · obtain ⟨G', e', w'⟩ := _root_.id hp
        obtain ⟨ws, h2, r2⟩ := src e' w'
        by_cases hz : i = items.length
        · subst hz
          exact .inl ⟨⟨ws, h2, by rw [r2.length]; exact Nat.le_refl _⟩, lc_endM (L.mono e1) hp (q1 D hM)⟩
        · have hlt : i < items.length := by omega
          have hx := List.getElem?_eq_getElem hlt
          obtain ⟨v, hv, rv⟩ := r2.get hx
          refine .inr ⟨⟨ws, v, h2, hv⟩, lcP X.K G1 M1 D items r (i + 1), fun H' h => ⟨m - 1, by omega, by omega, by omega, h⟩, fun z H' hy => ?_⟩
          obtain ⟨rfl, hy⟩ := hy
          have ez := hy ws h2
          rw [hv] at ez
          cases ez
          refine ⟨wipe_set hj, ?_⟩
          have S2 : Sim X.K ((wipeQ env own).set j (some items[i])) _ G' ((L2.wipe σ own).set j (some v)) H' := ⟨((S.env.mono (e1.trans e')).wipe _).set rv, w'⟩
          refine lc_turnQ hn hx e' hM S2 (fun M2 hM2 => ?_) (fun H' h => h)
          obtain ⟨env2, ee, q2⟩ := hr _ (List.getElem_mem hlt) M2 hM2
          cases ee
          exact q2
theorem lcR1M_imp {own : List Nat} {j : Nat} {ta : QA} {tt : QB} {te : QT} {σ : L2.St} {H : Hp} {Q : VK} (hj : j ∈ own) (h : tie X.K W (qLcR1M j own ta tt te) σ H Q) : tLc (iRng1 (tieA X.K W ta)) (gName j) (tieB X.K W0 tt) (tie X.K W0 te) own σ H Q := by
    obtain ⟨env, M, G, Q0, E0, S, q, L, LE⟩ := h
    refine ⟨env, M, G, _, E0, S, q, fun xs M1 vs H1 G1 e1 w1 r1 q1 => ?_, LE⟩
    obtain ⟨hi, rfl, ⟨b1, b2⟩, hn, r, hr, q1⟩ := q1
    obtain ⟨v, rfl, rv⟩ := reps1 r1
    cases rv
    refine ⟨hi, rfl, b1, b2, fun D hD => ?_⟩
    have hM := w1.freeM hD
    have hlen : ((List.range hi.toNat).map fun i => PV.int (i : Nat)).length = hi.toNat := by simp
    refine lc_range (lo := 0) (n := hi.toNat) (lcP X.K G1 M1 D ((List.range hi.toNat).map fun i => PV.int (i : Nat)) r) ⟨G1, Ext.refl _, w1.put (w1.free hD) (mok_lst Reps.nil)⟩ (fun i H hlt ⟨G', e', w'⟩ => ?_)
      (fun H hp => lc_endM (L.mono e1) (by rw [hlen]; exact hp) (q1 D hM))
    have hx : ((List.range hi.toNat).map fun i => PV.int (i : Nat))[i]? = some (.int (i : Nat)) := by
      rw [List.getElem?_map, List.getElem?_range hlt]; rfl
    refine ⟨wipe_set hj, ?_⟩
    have S2 : Sim X.K ((wipeQ env own).set j (some (.int (i : Nat)))) _ G' ((L2.wipe σ own).set j (some (.int (0 + (i : Int))))) H := ⟨((S.env.mono (e1.trans e')).wipe _).set (show V.int _ = V.int _ by rw [Int.zero_add]), w'⟩
    refine lc_turnQ hn hx e' hM S2 (fun M2 hM2 => ?_) (fun H' h => h)
    obtain ⟨env2, ee, q2⟩ := hr _ (List.mem_of_getElem? hx) M2 hM2
    cases ee
    exact q2
theorem qe_lcLM {elt iter : Expr} {x : Str} {px : Pos} {ifs : List Expr} {scope : Scope} {own : List (Str × Nat)} {j : Nat} {tl : QT} {tt : QB} {te : QT} (hc : X.calm = true) (hN : X.N.Nodup) (hl : QE X W iter tl) (hj : j ∈ own.map (·.2))
    (ok : BlkOk X.N X.env.scope scope own) (hg : ∀ (s : Shared) (H : Hp) (C : Addr) (cl : List (Str × Addr)) (fp : List Addr), PG (X.blk s H scope (compEnvC scope cl C X.env) fp) (.Name x px) (gName j))
    (ht : ∀ (s : Shared) (H : Hp) (C : Addr) (cl : List (Str × Addr)) (fp : List Addr), QPTs (X.blk s H scope (compEnvC scope cl C X.env) fp) ifs tt)
    (he : ∀ (s : Shared) (H : Hp) (C : Addr) (cl : List (Str × Addr)) (fp : List Addr), QE (X.blk s H scope (compEnvC scope cl C X.env) fp) W0 elt te) (hfs : ∀ v, foldedSetIterable iter X.env v = pure v := by intro _; rfl) :
    QE X W (.ListComp elt [{ target := .Name x px, iter := iter, ifs := ifs, is_async := 0 }] scope pos) (qLcLM j (own.map (·.2)) tl tt te) :=
  (pe_lc (tt := tieB X.K W0 tt) (te := tie X.K W0 te) hc hN (pi_list hl) ok hg ht he hfs).imp fun σ H Q h => lcLM_imp hj h
theorem qs_lcLM (i : Nat) {y : Str} {py spos : Pos} {elt iter : Expr} {x : Str} {px : Pos} {ifs : List Expr} {scope : Scope} {own : List (Str × Nat)} {j : Nat} {tl : QT} {tt : QB} {te : QT} (hc : X.calm = true) (hN : X.N.Nodup) (hl : QE X W iter tl) (hj : j ∈ own.map (·.2))
    (ok : BlkOk X.N X.env.scope scope own) (hg : ∀ (s : Shared) (H : Hp) (C : Addr) (cl : List (Str × Addr)) (fp : List Addr), PG (X.blk s H scope (compEnvC scope cl C X.env) fp) (.Name x px) (gName j))
    (ht : ∀ (s : Shared) (H : Hp) (C : Addr) (cl : List (Str × Addr)) (fp : List Addr), QPTs (X.blk s H scope (compEnvC scope cl C X.env) fp) ifs tt)
    (he : ∀ (s : Shared) (H : Hp) (C : Addr) (cl : List (Str × Addr)) (fp : List Addr), QE (X.blk s H scope (compEnvC scope cl C X.env) fp) W0 elt te) (hfs : ∀ v, foldedSetIterable iter X.env v = pure v := by intro _; rfl) (hlo : X.env.scope.names.lookup y = some .local := by rfl) (hi : X.N[i]? = some y := by rfl) (hsw : swapsWith (.ListComp elt [{ target := .Name x px, iter := iter, ifs := ifs, is_async := 0 }] scope pos) (some (.Name y py)) spos.line X.env = pure true := by exact sw_true rfl rfl rfl (by decide +kernel)) :
    QPS X W (.Assign [.Name y py] (.ListComp elt [{ target := .Name x px, iter := iter, ifs := ifs, is_async := 0 }] scope pos) spos) (sAsg (qLcLM j (own.map (·.2)) tl tt te) (gNm i)) :=
  (ps_setLc (tt := tieB X.K W0 tt) (te := tie X.K W0 te) hc hN hi hlo hsw (pi_list hl) ok hg ht he hfs).imp fun D σ H h => lcLM_imp hj (tieNm (tieAsg h) fun _ _ _ _ k z => tie_mono k z)
theorem qe_lcR1M {elt a : Expr} {x : Str} {px p pos' : Pos} {ifs : List Expr} {scope : Scope} {own : List (Str × Nat)} {j : Nat} {ta : QA} {tt : QB} {te : QT} (hc : X.calm = true) (hN : X.N.Nodup) (hm : X.mg "range" = none) (hl : QPA X W [a] ta) (hj : j ∈ own.map (·.2))
    (ok : BlkOk X.N X.env.scope scope own) (hg : ∀ (s : Shared) (H : Hp) (C : Addr) (cl : List (Str × Addr)) (fp : List Addr), PG (X.blk s H scope (compEnvC scope cl C X.env) fp) (.Name x px) (gName j))
    (ht : ∀ (s : Shared) (H : Hp) (C : Addr) (cl : List (Str × Addr)) (fp : List Addr), QPTs (X.blk s H scope (compEnvC scope cl C X.env) fp) ifs tt)
    (he : ∀ (s : Shared) (H : Hp) (C : Addr) (cl : List (Str × Addr)) (fp : List Addr), QE (X.blk s H scope (compEnvC scope cl C X.env) fp) W0 elt te) (hgr : Gl X "range" := by rfl)
    (hst : starEach [a] X.env = [(false, eval a X.env)] := by rfl) (hfs : ∀ v, foldedSetIterable (.Call (.Name "range" p) [a] [] pos') X.env v = pure v := by intro _; rfl) :
    QE X W (.ListComp elt [{ target := .Name x px, iter := .Call (.Name "range" p) [a] [] pos', ifs := ifs, is_async := 0 }] scope pos) (qLcR1M j (own.map (·.2)) ta tt te) :=
  (pe_lc (tt := tieB X.K W0 tt) (te := tie X.K W0 te) hc hN (pi_range1 hgr hm hl hst) ok hg ht he hfs).imp fun σ H Q h => lcR1M_imp hj h
theorem qs_lcR1M (i : Nat) {y : Str} {py spos : Pos} {elt a : Expr} {x : Str} {px p pos' : Pos} {ifs : List Expr} {scope : Scope} {own : List (Str × Nat)} {j : Nat} {ta : QA} {tt : QB} {te : QT} (hc : X.calm = true) (hN : X.N.Nodup) (hm : X.mg "range" = none) (hl : QPA X W [a] ta) (hj : j ∈ own.map (·.2))
    (ok : BlkOk X.N X.env.scope scope own) (hg : ∀ (s : Shared) (H : Hp) (C : Addr) (cl : List (Str × Addr)) (fp : List Addr), PG (X.blk s H scope (compEnvC scope cl C X.env) fp) (.Name x px) (gName j))
    (ht : ∀ (s : Shared) (H : Hp) (C : Addr) (cl : List (Str × Addr)) (fp : List Addr), QPTs (X.blk s H scope (compEnvC scope cl C X.env) fp) ifs tt)
    (he : ∀ (s : Shared) (H : Hp) (C : Addr) (cl : List (Str × Addr)) (fp : List Addr), QE (X.blk s H scope (compEnvC scope cl C X.env) fp) W0 elt te) (hgr : Gl X "range" := by rfl)
    (hst : starEach [a] X.env = [(false, eval a X.env)] := by rfl) (hfs : ∀ v, foldedSetIterable (.Call (.Name "range" p) [a] [] pos') X.env v = pure v := by intro _; rfl) (hlo : X.env.scope.names.lookup y = some .local := by rfl) (hi : X.N[i]? = some y := by rfl) (hsw : swapsWith (.ListComp elt [{ target := .Name x px, iter := .Call (.Name "range" p) [a] [] pos', ifs := ifs, is_async := 0 }] scope pos) (some (.Name y py)) spos.line X.env = pure true := by exact sw_true rfl rfl rfl (by decide +kernel)) :
    QPS X W (.Assign [.Name y py] (.ListComp elt [{ target := .Name x px, iter := .Call (.Name "range" p) [a] [] pos', ifs := ifs, is_async := 0 }] scope pos) spos) (sAsg (qLcR1M j (own.map (·.2)) ta tt te) (gNm i)) :=
  (ps_setLc (tt := tieB X.K W0 tt) (te := tie X.K W0 te) hc hN hi hlo hsw (pi_range1 hgr hm hl hst) ok hg ht he hfs).imp fun D σ H h => lcR1M_imp hj (tieNm (tieAsg h) fun _ _ _ _ k z => tie_mono k z)
def gLu (n : Nat) (gs : QTGs) : QTG := fun x env M Q => ∃ xs, sq M x = some xs ∧ xs.length = n ∧ gs xs env M Q
theorem qg_lst {es : List Expr} {k : Nat} {gs : QTGs} {n : Nat} (hc : X.calm = true) (h : QPGs X es gs) (hn : (assignEach es X.env).length = n := by rfl) (hst : (assignEach es X.env).findIdx? (·.1) = none := by rfl) : QPG X (.Tuple es k pos) (gLu n gs) :=
  (pg_lst hc h hn hst).imp fun v σ H Q ⟨x, env, M, G, Q0, r, S, ⟨xs, hx, hl, q⟩, L⟩ => by
    obtain ⟨p, vs, rfl, h1, r1⟩ := sq_H hx r S.wf
    exact ⟨p, vs, rfl, SqL.of h1, by rw [← r1.length]; exact hl, xs, env, M, G, Q0, r1, S, q, L⟩
end
section
variable {P : Program} {w : World} {K : PySem.W.Frag} {mg : Str → Option Value} {base : Heap}
theorem okQD {x qual : Str} {st : Stmt} {f : Addr} {fd : FuncData} {N ps : List Str} {k : Nat} {s : SpQ} {dvs : List V} {kws : List (Str × V)} (F : FunD K x qual (defArgs st) (defBody st) (defScope st) dvs kws f fd) (S : FnScope N ps (defScope st)) (len : ∀ xs M Q E, s xs M Q E → xs.length = ps.length)
    (hbody : ∀ (cdv : Value) (A : Around) (outer : List Env) (s0 : Shared) (H0 : Hp) (E : XK), Room k (A.deeper (envOfC qual (defScope st) s0.heap.objs.size f cdv)) →
      ∃ t, QPSs (cxOf (L2.CX P w) P w K mg base N qual (defScope st) f cdv A outer s0 H0 E) (fun cls d _ H => E cls d H) (defBody st) t ∧
        ∀ xs M Q0 E0, s xs M Q0 E0 → t { nx := fun _ M => Q0 .non M, rt := Q0, ex := fun c pl _ M => E0 c pl M } (startQ N xs) M) : FnQ P w K mg base (k + 1) f fd ps s := by
  refine F.ok S (fun vs H Q E h => ?_) (fun cdv A outer s0 H vs Q E hr h => ?_)
  · obtain ⟨xs, M, G, Q0, E0, r, _, q, _⟩ := h
    rw [← r.length]
    exact len xs M Q0 E0 q
  · obtain ⟨xs, M, G, Q0, E0, r, w, q, L, LE⟩ := h
    obtain ⟨t, h1, h2⟩ := hbody cdv A outer s0 H E hr
    refine ⟨_, h1, startQ N xs, M, G, _, ⟨start_env r, w⟩, h2 xs M Q0 E0 q, ?_⟩
    exact ⟨fun env' M' σ' H' G' e S q => L .non M' .non H' G' e S.wf rfl q, L, fun _ _ _ _ _ _ _ q => q, fun _ _ _ _ _ _ _ q => q, fun c pl env' M' d σ' H' G' e S x q => LE c pl M' d H' G' e S.wf x q⟩
end
end TQ
namespace TN
open PySem PySem.Spec PyProof.Rows L2 TQ TM
section
variable {K : PySem.W.Frag} {env : Sl} {M : Mem} {Q : PK} {E : EK} {xs : List PV}
def lcM (o : Option (List PV)) (vs : List Nat) (j : Nat) (tt : QB) (te : QT) (env : Sl) (M1 : Mem) [Q : Box PK] : Prop := match o with
  | some items => lcQM items (fun y => some ((wipeQ env vs).set j (some y))) tt te M1 Q.v
  | none => False
theorem e_gLu {n : Nat} {gs : QTGs} {x : PV} {Q : Sl → Mem → Prop} : gLu n gs x env M Q = ∃ xs, sq M x = some xs ∧ xs.length = n ∧ gs xs env M Q := rfl
def sqB (o : Option (List PV)) (n : Nat) (gs : QTGs) (env : Sl) (M : Mem) [Q : Box (Sl → Mem → Prop)] : Prop := ∃ xs, o = some xs ∧ xs.length = n ∧ gs xs env M Q.v
theorem e_gLu2 {n : Nat} {gs : QTGs} {x : PV} {Q : Sl → Mem → Prop} : gLu n gs x env M Q = @sqB (sq M x) n gs env M ⟨Q⟩ := rfl
theorem sqB_some {n : Nat} {gs : QTGs} {Q : Box (Sl → Mem → Prop)} : @sqB (some xs) n gs env M Q = (xs.length = n ∧ gs xs env M Q.v) := propext ⟨fun ⟨_, h, q⟩ => by cases h; exact q, fun q => ⟨_, rfl, q⟩⟩
theorem sq_lst : sq M (.lst xs) = some xs := rfl
theorem sq_ref {a : Addr} (h : M a = some (.lst xs)) : sq M (.ref a) = some xs := by
  show ml (M a) = _
  rw [h]
  rfl
theorem b_mul_l {n : Int} : bMul (.lst xs) (.int n) M Q = ((0 ≤ n ∧ n ≤ 1000 ∧ xs.length ≤ 1000) ∧ Q (.lst (List.replicate n.toNat xs).flatten) M) := rfl
theorem e_cInt_tt : cInt [.bl true] M Q = Q (.int 1) M := rfl
theorem e_cInt_ff : cInt [.bl false] M Q = Q (.int 0) M := rfl
theorem xi_ref0 {a : Addr} {i : Int} : bIx (.ref a) (.int i) M Q = bIx (.ref a) (.int i) M Q := rfl
def ixRB (a : Addr) (i : Int) (M : Mem) [Q : Box PK] : Prop := bIx (.ref a) (.int i) M Q.v
theorem e_ixR {a : Addr} {i : Int} : bIx (.ref a) (.int i) M Q = @ixRB a i M ⟨Q⟩ := rfl
theorem ixR_of {a : Addr} {i : Int} {Q : Box PK} (h : M a = some (.lst xs)) : @ixRB a i M Q = @ixP (atI xs i) M Q := by
  show (match ml (M a) with
    | some xs => ∃ v, atI xs i = some v ∧ Q.v v M
    | none => False) = _
  rw [h]
  rfl
theorem ixR_mset {a : Addr} {i : Int} {Q : Box PK} : @ixRB a i (mset M a (.lst xs)) Q = @ixP (atI xs i) (mset M a (.lst xs)) Q := ixR_of mset_same
mutual
def pdep : PV → Nat
  | .tup xs => pdeps xs + 1
  | .lst xs => pdeps xs + 1
  | _ => 0
def pdeps : List PV → Nat
  | [] => 0
  | x :: xs => max (pdep x) (pdeps xs)
end
mutual
theorem dat0_dep : ∀ (x : PV) (d : PyData), dat0 x = some d → d.depth ≤ pdep x
  | .non, _, h => by cases h; simp [PyData.depth, pdep]
  | .bl b, _, h => by cases h; simp [PyData.depth, pdep]
  | .int b, _, h => by cases h; simp [PyData.depth, pdep]
  | .str b, _, h => by cases h; simp [PyData.depth, pdep]
  | .tup xs, _, h => by
    unfold dat0 at h
    cases hd : dat0s xs with
    | none => rw [hd] at h; cases h
    | some ds => rw [hd] at h; cases h; have := dat0s_dep xs ds hd; simp [PyData.depth, pdep]; exact this
  | .lst xs, _, h => by
    unfold dat0 at h
    cases hd : dat0s xs with
    | none => rw [hd] at h; cases h
    | some ds => rw [hd] at h; cases h; have := dat0s_dep xs ds hd; simp [PyData.depth, pdep]; exact this
  | .scr _, _, h => by cases h
  | .obj _ _ _, _, h => by cases h
  | .ref _, _, h => by cases h
  | .ty _, _, h => by cases h
theorem dat0s_dep : ∀ (xs : List PV) (ds : List PyData), dat0s xs = some ds → PyData.depthAll ds ≤ pdeps xs
  | [], _, h => by cases h; simp [PyData.depthAll, pdeps]
  | x :: xs, _, h => by
    unfold dat0s at h
    cases hd : dat0 x with
    | none => rw [hd] at h; cases h
    | some d =>
      rw [hd] at h
      cases hs : dat0s xs with
      | none => rw [hs] at h; cases h
      | some ds =>
        rw [hs] at h
        cases h
        have a := dat0_dep x d hd
        have b := dat0s_dep xs ds hs
        simp [PyData.depthAll, pdeps]
        omega
end
theorem same_l {neg : Bool} {ds : List PyData} (h : dat0s xs = some ds) (hd : pdeps xs ≤ 60) : bEqP neg (.lst xs) (.lst xs) M Q = Q (.bl (!neg)) M := by
  have e : dat M (.lst xs) = some (.list ds) := by show (dat0s xs).map PyData.list = _; rw [h]; rfl
  have hp := SeqAt.eqv_refl_plain _ (dat_plain e)
  have hde := dat0_dep (.lst xs) (.list ds) e
  show (match dat M (.lst xs), dat M (.lst xs) with
    | some d, some e => min d.depth e.depth ≤ 64 ∧ Q (.bl (if neg then !PyData.eqv d e else PyData.eqv d e)) M
    | _, _ => False) = _
  rw [e]
  dsimp only
  rw [hp]
  have : pdep (.lst xs) = pdeps xs + 1 := rfl
  exact propext ⟨fun z => by cases neg <;> exact z.2, fun z => ⟨by omega, by cases neg <;> exact z⟩⟩
theorem same_t {neg : Bool} {ds : List PyData} (h : dat0s xs = some ds) (hd : pdeps xs ≤ 60) : bEqP neg (.tup xs) (.tup xs) M Q = Q (.bl (!neg)) M := by
  have e : dat M (.tup xs) = some (.tuple ds) := by show (dat0s xs).map PyData.tuple = _; rw [h]; rfl
  have hp := SeqAt.eqv_refl_plain _ (dat_plain e)
  have hde := dat0_dep (.tup xs) (.tuple ds) e
  show (match dat M (.tup xs), dat M (.tup xs) with
    | some d, some e => min d.depth e.depth ≤ 64 ∧ Q (.bl (if neg then !PyData.eqv d e else PyData.eqv d e)) M
    | _, _ => False) = _
  rw [e]
  dsimp only
  rw [hp]
  have : pdep (.tup xs) = pdeps xs + 1 := rfl
  exact propext ⟨fun z => by cases neg <;> exact z.2, fun z => ⟨by omega, by cases neg <;> exact z⟩⟩
theorem ne_l {ds : List PyData} (h : dat0s xs = some ds) (hd : pdeps xs ≤ 60) : bNe (.lst xs) (.lst xs) M Q = Q (.bl false) M := same_l h hd
theorem ne_t {ds : List PyData} (h : dat0s xs = some ds) (hd : pdeps xs ≤ 60) : bNe (.tup xs) (.tup xs) M Q = Q (.bl false) M := same_t h hd
theorem eq_l {ds : List PyData} (h : dat0s xs = some ds) (hd : pdeps xs ≤ 60) : bEq (.lst xs) (.lst xs) M Q = Q (.bl true) M := same_l h hd
theorem eq_t {ds : List PyData} (h : dat0s xs = some ds) (hd : pdeps xs ≤ 60) : bEq (.tup xs) (.tup xs) M Q = Q (.bl true) M := same_t h hd
theorem dat0s_str : ∀ ss : List Str, dat0s (ss.map PV.str) = some (ss.map PyData.str) ∧ pdeps (ss.map PV.str) = 0
  | [] => ⟨rfl, rfl⟩
  | s :: ss => by
    obtain ⟨a, b⟩ := dat0s_str ss
    refine ⟨?_, ?_⟩
    · show ((dat0 (.str s)).bind fun d => (dat0s (ss.map PV.str)).map fun ds => d :: ds) = _
      rw [a]
      rfl
    · show max 0 (pdeps (ss.map PV.str)) = 0
      rw [b]
      rfl
theorem e_lcLM {j : Nat} {vs : List Nat} {tl : QT} {tt : QB} {te : QT} : qLcLM j vs tl tt te env M Q E = tl env M (fun x M1 => @lcM (sqA M1 x) vs j tt te env M1 ⟨Q⟩) E := rfl
theorem e_lcR1M {j : Nat} {vs : List Nat} {ta : QA} {tt : QB} {te : QT} : qLcR1M j vs ta tt te env M Q E = ta env M (fun xs M1 => isR1 xs fun hi => (-(2 ^ 62) ≤ hi ∧ hi < 2 ^ 62) ∧ @lcM (some ((List.range hi.toNat).map fun i => .int (i : Nat))) vs j tt te env M1 ⟨Q⟩) E := rfl
theorem lcM_of {vs : List Nat} {j : Nat} {tt : QB} {te : QT} {Q : Box PK} (r : PV → Option PV) (hn : xs.length ≤ 100000) (h : ∀ x ∈ xs, ∀ M2, MExt M M2 → lcEl tt te ((wipeQ env vs).set j (some x)) M2 (r x)) (q : ∀ D, M D = none → Q.v (.ref D) (mset M D (.lst (xs.filterMap r)))) : @lcM (some xs) vs j tt te env M Q :=
  ⟨hn, r, fun x hx M2 hM => ⟨_, rfl, h x hx M2 hM⟩, q⟩
end
end TN

namespace TQ
open PySem PySem.Spec PyProof.Rows L2
/-! ### what the top has written, def by def -/
set_option genSizeOf false
set_option genInjectivity false
structure TopF (K : PySem.W.Frag) (mg : Str → Option Value) (gn py qual : Str) (st : Stmt) (ps : List Str) where
  a : Addr
  d : FuncData
  m : mg gn = some (.ref a)
  F : Fun K py qual st a d
  b : Binds K d ps []
structure TopM (K : PySem.W.Frag) (py qual : Str) (st : Stmt) (ps : List Str) where
  a : Addr
  d : FuncData
  F : Fun K py qual st a d
  b : Binds K d ps []
structure TopD (K : PySem.W.Frag) (py qual : Str) (st : Stmt) (dvs : List V) where
  a : Addr
  d : FuncData
  F : FunD K py qual (defArgs st) (defBody st) (defScope st) dvs [] a d
structure TopG (K : PySem.W.Frag) (mg : Str → Option Value) (gn py qual : Str) (st : Stmt) (dvs : List V) where
  a : Addr
  d : FuncData
  m : mg gn = some (.ref a)
  F : FunD K py qual (defArgs st) (defBody st) (defScope st) dvs [] a d
/-! a, b = x, y -/
section
variable {X : Cx} {W : WX} {pos : Pos}
def sPar (i j : Nat) (t : QA) : QS := fun D env M => t env M (fun xs M1 => ∃ x y, xs = [x, y] ∧ D.nx ((env.set i (some x)).set j (some y)) M1) (exE D env)
theorem qs_par {i j : Nat} {x y : Str} {a b : Expr} {t : QA} {px py pt : Pos} {kt k2 pt2} (hc : X.calm = true) (hN : X.N.Nodup) (hi : X.N[i]? = some x) (hj : X.N[j]? = some y) (hij : i ≠ j)
    (hx : X.env.scope.names.lookup x = some .local) (hy : X.env.scope.names.lookup y = some .local) (ha : QPA X W [a, b] t)
    (hw : swappedStores [.Tuple [.Name x px, .Name y py] kt pt] (.Tuple [a, b] k2 pt2) X.env = pure (some [x, y]) := by rfl)
    (hs : swapsWithSole [.Tuple [.Name x px, .Name y py] kt pt] (.Tuple [a, b] k2 pt2) pos.line X.env = pure false := by rfl) :
    QPS X W (.Assign [.Tuple [.Name x px, .Name y py] kt pt] (.Tuple [a, b] k2 pt2) pos) (sPar i j t) := (ps_par hc hN hi hj hij hx hy ha hw hs).imp fun D σ H ⟨env, M, G, D0, S, q, L⟩ => by
  refine ⟨env, M, G, _, _, S, q, fun xs M1 vs H1 G1 e1 w1 r1 q1 => ?_, liftX_E S.env L.ex⟩
  obtain ⟨u, v, rfl, q1⟩ := q1
  obtain ⟨_, _, rfl, ru, _, _, rfl, rv, rfl⟩ := r1
  exact ⟨_, _, rfl, L.nx _ M1 _ H1 G1 e1 (((S.to e1 w1).set ru).set rv) q1⟩
/-! comprehensions over a range whose elements make things -/
def lcIQ (n : Nat) (slots : Nat → Sl) (tt : QB) (te : QT) (M1 : Mem) (Q : PK) : Prop := ∀ D, M1 D = none → ∃ I : Nat → Mem → Prop, I 0 (mset M1 D (.lst [])) ∧
  (∀ i, i < n → ∀ M2, I i M2 → tt (slots i) M2 (fun b M3 => if b = true then te (slots i) M3 (fun y M4 => ∃ acc, M4 D = some (.lst acc) ∧ acc.length < sizeLine ∧ I (i + 1) (mset M4 D (.lst (acc ++ [y])))) EF else I (i + 1) M3) EF) ∧ ∀ M2, I n M2 → Q (.ref D) M2
def qLcR1I (j : Nat) (vs : List Nat) (ta : QA) (tt : QB) (te : QT) : QT := fun env M Q E => ta env M (fun xs M1 => ∃ hi, xs = [.int hi] ∧ (-(2 ^ 62) ≤ hi ∧ hi < 2 ^ 62) ∧
  lcIQ hi.toNat (fun i => (wipeQ env vs).set j (some (.int (i : Nat)))) tt te M1 Q) E
theorem lcR1I_imp {own : List Nat} {j : Nat} {ta : QA} {tt : QB} {te : QT} {σ : L2.St} {H : Hp} {Q : VK} (hj : j ∈ own) (h : tie X.K W (qLcR1I j own ta tt te) σ H Q) : tLc (iRng1 (tieA X.K W ta)) (gName j) (tieB X.K W0 tt) (tie X.K W0 te) own σ H Q := by
    obtain ⟨env, M, G, Q0, E0, S, q, L, LE⟩ := h
    refine ⟨env, M, G, _, E0, S, q, fun xs M1 vs H1 G1 e1 w1 r1 q1 => ?_, LE⟩
    obtain ⟨hi, rfl, ⟨b1, b2⟩, q1⟩ := q1
    obtain ⟨v, rfl, rv⟩ := reps1 r1
    cases rv
    refine ⟨hi, rfl, b1, b2, fun D hD => ?_⟩
    have hM := w1.freeM hD
    obtain ⟨I, h0, hI, hE⟩ := q1 D hM
    refine lc_range (lo := 0) (n := hi.toNat) (fun i H => ∃ G' M2, Ext G1 G' ∧ Wf X.K M2 H G' ∧ I i M2) ⟨G1, _, Ext.refl _, w1.put (w1.free hD) (mok_lst Reps.nil), h0⟩ (fun i H hlt ⟨G', M2, e', w', i1⟩ => ?_)
      (fun H ⟨G', M2, e', w', i1⟩ => (L.mono e1) (.ref D) M2 _ H G' e' w' rfl (hE M2 i1))
    refine ⟨wipe_set hj, ?_⟩
    have S2 : Sim X.K ((wipeQ env own).set j (some (.int (i : Nat)))) _ G' ((L2.wipe σ own).set j (some (.int (0 + (i : Int))))) H := ⟨((S.env.mono (e1.trans e')).wipe _).set (show V.int _ = V.int _ by rw [Int.zero_add]), w'⟩
    refine ⟨_, _, G', _, EF, S2, hI i hlt M2 i1, fun b M4 H3 G3 e3 w3 q3 => ?_, EF_lift⟩
    cases b with
    | false =>
      rw [if_neg (by simp)] at q3
      rw [if_neg (by simp)]
      exact ⟨G3, M4, e'.trans e3, w3, q3⟩
    | true =>
      rw [if_pos rfl] at q3
      rw [if_pos rfl]
      refine ⟨_, _, G3, _, EF, S2.to e3 w3, q3, fun y M5 v H4 G4 e4 w4 ry q4 => ?_, EF_lift⟩
      obtain ⟨acc, h5, hl, q4⟩ := q4
      obtain ⟨g0, vs, h1, r1⟩ := w4.mem D _ h5
      refine ⟨vs, h1, by rw [← r1.length]; exact hl, G4, _, (e'.trans e3).trans e4, w4.put (p := D) (o := .lst (vs ++ [v])) g0 (mok_lst (r1.append (Reps.one ry))), q4⟩
theorem qe_lcR1I {elt a : Expr} {x : Str} {px p pos' : Pos} {ifs : List Expr} {scope : Scope} {own : List (Str × Nat)} {j : Nat} {ta : QA} {tt : QB} {te : QT} (hc : X.calm = true) (hN : X.N.Nodup) (hm : X.mg "range" = none) (hl : QPA X W [a] ta) (hj : j ∈ own.map (·.2))
    (ok : BlkOk X.N X.env.scope scope own) (hg : ∀ (s : Shared) (H : Hp) (C : Addr) (cl : List (Str × Addr)) (fp : List Addr), PG (X.blk s H scope (compEnvC scope cl C X.env) fp) (.Name x px) (gName j))
    (ht : ∀ (s : Shared) (H : Hp) (C : Addr) (cl : List (Str × Addr)) (fp : List Addr), QPTs (X.blk s H scope (compEnvC scope cl C X.env) fp) ifs tt)
    (he : ∀ (s : Shared) (H : Hp) (C : Addr) (cl : List (Str × Addr)) (fp : List Addr), QE (X.blk s H scope (compEnvC scope cl C X.env) fp) W0 elt te) (hgr : Gl X "range" := by rfl)
    (hst : starEach [a] X.env = [(false, eval a X.env)] := by rfl) (hfs : ∀ v, foldedSetIterable (.Call (.Name "range" p) [a] [] pos') X.env v = pure v := by intro _; rfl) :
    QE X W (.ListComp elt [{ target := .Name x px, iter := .Call (.Name "range" p) [a] [] pos', ifs := ifs, is_async := 0 }] scope pos) (qLcR1I j (own.map (·.2)) ta tt te) :=
  (pe_lc (tt := tieB X.K W0 tt) (te := tie X.K W0 te) hc hN (pi_range1 hgr hm hl hst) ok hg ht he hfs).imp fun σ H Q h => lcR1I_imp hj h
theorem qs_lcR1I (i : Nat) {y : Str} {py spos : Pos} {elt a : Expr} {x : Str} {px p pos' : Pos} {ifs : List Expr} {scope : Scope} {own : List (Str × Nat)} {j : Nat} {ta : QA} {tt : QB} {te : QT} (hc : X.calm = true) (hN : X.N.Nodup) (hm : X.mg "range" = none) (hl : QPA X W [a] ta) (hj : j ∈ own.map (·.2))
    (ok : BlkOk X.N X.env.scope scope own) (hg : ∀ (s : Shared) (H : Hp) (C : Addr) (cl : List (Str × Addr)) (fp : List Addr), PG (X.blk s H scope (compEnvC scope cl C X.env) fp) (.Name x px) (gName j))
    (ht : ∀ (s : Shared) (H : Hp) (C : Addr) (cl : List (Str × Addr)) (fp : List Addr), QPTs (X.blk s H scope (compEnvC scope cl C X.env) fp) ifs tt)
    (he : ∀ (s : Shared) (H : Hp) (C : Addr) (cl : List (Str × Addr)) (fp : List Addr), QE (X.blk s H scope (compEnvC scope cl C X.env) fp) W0 elt te) (hgr : Gl X "range" := by rfl)
    (hst : starEach [a] X.env = [(false, eval a X.env)] := by rfl) (hfs : ∀ v, foldedSetIterable (.Call (.Name "range" p) [a] [] pos') X.env v = pure v := by intro _; rfl) (hlo : X.env.scope.names.lookup y = some .local := by rfl) (hi : X.N[i]? = some y := by rfl) (hsw : swapsWith (.ListComp elt [{ target := .Name x px, iter := .Call (.Name "range" p) [a] [] pos', ifs := ifs, is_async := 0 }] scope pos) (some (.Name y py)) spos.line X.env = pure true := by exact sw_true rfl rfl rfl (by decide +kernel)) :
    QPS X W (.Assign [.Name y py] (.ListComp elt [{ target := .Name x px, iter := .Call (.Name "range" p) [a] [] pos', ifs := ifs, is_async := 0 }] scope pos) spos) (sAsg (qLcR1I j (own.map (·.2)) ta tt te) (gNm i)) :=
  (ps_setLc (tt := tieB X.K W0 tt) (te := tie X.K W0 te) hc hN hi hlo hsw (pi_range1 hgr hm hl hst) ok hg ht he hfs).imp fun D σ H h => lcR1I_imp hj (tieNm (tieAsg h) fun _ _ _ _ k z => tie_mono k z)
end
end TQ
namespace TN
open PySem PySem.Spec PyProof.Rows L2 TQ TM
def parP (i j : Nat) (xs : List PV) (env : Sl) (M : Mem) [Q : Box (Sl → Mem → Prop)] : Prop := ∃ x y, xs = [x, y] ∧ Q.v ((env.set i (some x)).set j (some y)) M
section
variable {x y : PV} {env : Sl} {M : Mem} {D : QEnds} {i j : Nat} {t : QA} {u : QS}
theorem e_sPar : sPar i j t D env M = t env M (fun xs M1 => @parP i j xs env M1 ⟨D.nx⟩) (exE D env) := rfl
theorem s_par : sSeq (sPar i j t) u D env M = sPar i j t { D with nx := u D } env M := rfl
theorem parP_2 {Q : Box (Sl → Mem → Prop)} : @parP i j [x, y] env M Q = @nxP ((env.set i (some x)).set j (some y)) M Q := propext ⟨fun ⟨_, _, h, q⟩ => by cases h; exact q, fun q => ⟨_, _, rfl, q⟩⟩
def lcI (n : Nat) (vs : List Nat) (j : Nat) (tt : QB) (te : QT) (env : Sl) (M : Mem) [Q : Box PK] : Prop := lcIQ n (fun i => (wipeQ env vs).set j (some (.int (i : Nat)))) tt te M Q.v
theorem e_lcR1I {vs : List Nat} {ta : QA} {tt : QB} {te : QT} {Q : PK} {E : EK} : qLcR1I j vs ta tt te env M Q E = ta env M (fun xs M1 => isR1 xs fun hi => (-(2 ^ 62) ≤ hi ∧ hi < 2 ^ 62) ∧ @lcI hi.toNat vs j tt te env M1 ⟨Q⟩) E := rfl
theorem lcI_of {n : Nat} {vs : List Nat} {tt : QB} {te : QT} {Q : Box PK} (h : ∀ D, M D = none → ∃ I : Nat → Mem → Prop, I 0 (mset M D (.lst [])) ∧
  (∀ i : Nat, i < n → ∀ M2, I i M2 → tt ((wipeQ env vs).set j (some (.int (i : Nat)))) M2 (fun b M3 => if b = true then te ((wipeQ env vs).set j (some (.int (i : Nat)))) M3 (fun y M4 => ∃ acc, M4 D = some (.lst acc) ∧ acc.length < sizeLine ∧ I (i + 1) (mset M4 D (.lst (acc ++ [y])))) EF else I (i + 1) M3) EF) ∧ ∀ M2, I n M2 → Q.v (.ref D) M2) : @lcI n vs j tt te env M Q := h
end
end TN

/-! The law's head: the top run in the kernel, more than once; each run is asked for some of the facts. -/
namespace TW
open PySem PySem.Spec PyProof.Rows L2
/-! ### what is looked at -/
def refsC (o : Obj) : List Addr := match o.data with
  | .cls cd => cd.ns :: cd.mro.flatMap He.refV
  | .dict es _ => es.toList.flatMap fun e => He.refV e.val
  | .func fd => He.refV fd.code ++ He.refV fd.defaults
  | _ => []
def stepC (g : Addr → Option Obj) (as : List Addr) : List Addr := as.flatMap fun a => match g a with
  | some o => refsC o
  | none => []
def asC (g : Addr → Option Obj) : List Addr := mainGlobals :: cStatics :: (stepC g [mainGlobals] ++ (stepC g (stepC g [mainGlobals]) ++ (stepC g (stepC g (stepC g [mainGlobals])) ++ stepC g (stepC g (stepC g (stepC g [mainGlobals]))))))
def frC (g : Addr → Option Obj) : PySem.W.Frag := He.frG g (asC g)
/-- what the end leans on -/
structure SaysC (fx : PySem.W.Frag → List Bool) (fn : List He.DefD) (K : PySem.W.Frag) : Prop where
  f : (fx K).all (fun b => b) = true
  d : (fn.all fun d => d.ok K) = true
  v : fn.map (fun d => He.fnW K d.at_) = fn.map He.DefD.val
abbrev AlC : Type := Bool × Bool × List He.FnW
def obsC (fx : PySem.W.Frag → List Bool) (fn : List He.DefD) (K : PySem.W.Frag) : AlC := ((fx K).all fun b => b, fn.all fun d => d.ok K, fn.map fun d => He.fnW K d.at_)
def valC (fn : List He.DefD) : AlC := (true, true, fn.map He.DefD.val)
def hookC (fx : PySem.W.Frag → List Bool) (fn : List He.DefD) : PySem.W.Hook where
  α := AlC
  obs := fun s => obsC fx fn (frC s.heap.get?)
  val := fun _ => valC fn
  says := fun _ h => ∃ K : PySem.W.Frag, K.In h ∧ SaysC fx fn K
  of := fun _ _ e => ⟨_, He.frG_in, ⟨congrArg (fun z : AlC => z.1) e, congrArg (fun z : AlC => z.2.1) e, congrArg (fun z : AlC => z.2.2) e⟩⟩
  keeps := fun _ _ _ ⟨K, hK, c⟩ k => ⟨K, PySem.W.Frag.In.keeps hK k, c⟩
def obC (fx : PySem.W.Frag → List Bool) (fn : List He.DefD) (s : PySem.W.SharedT) : AlC := obsC fx fn (frC (HandSHeadRun.getT s))
theorem obC_eq {fx : PySem.W.Frag → List Bool} {fn : List He.DefD} (s : PySem.W.SharedT) : obC fx fn s = (hookC fx fn).obs s.abs := by
  have e : HandSHeadRun.getT s = s.abs.heap.get? := funext fun a => HandSHeadRun.getT_eq s a
  unfold obC
  rw [e]
  rfl
theorem SaysC.fact {fx : PySem.W.Frag → List Bool} {fn : List He.DefD} {K : PySem.W.Frag} (c : SaysC fx fn K) (i : Nat) {b : Bool} (h : (fx K)[i]? = some b) : b = true := List.all_eq_true.mp c.f b (List.mem_of_getElem? h)
theorem SaysC.dec {fx : PySem.W.Frag → List Bool} {fn : List He.DefD} {K : PySem.W.Frag} (c : SaysC fx fn K) (i : Nat) {p : Prop} [Decidable p] (h : (fx K)[i]? = some (decide p)) : p := of_decide_eq_true (c.fact i h)
theorem SaysC.def_ {fx : PySem.W.Frag → List Bool} {fn : List He.DefD} {K : PySem.W.Frag} (c : SaysC fx fn K) (i : Nat) {d : He.DefD} (h : fn[i]? = some d) : ∃ fd, FunD K d.name d.qual d.params d.body d.scope (d.dvs K) (d.kws K) (He.fAd K d.at_) fd := by
  have e2 : (fn.map fun d => He.fnW K d.at_)[i]? = (fn.map He.DefD.val)[i]? := by rw [c.v]
  rw [List.getElem?_map, List.getElem?_map, h] at e2
  exact He.DefD.funD (Option.some.inj e2) (List.all_eq_true.mp c.d d (List.mem_of_getElem? h))
/-! ### the runs -/
section
open PySem.W PySem.Calls HandSHeadRun
/-- the state behind the top -/
noncomputable abbrev endC (p : Program) (M : Nat) (w : World) (os : OsState) : Option SharedT := endF (stepQ (denQ tabQ) p w) M p w os
/-- some of the facts at one run -/
def Asks {α : Type} (p : Program) (M : Nat) (f : SharedT → α) (v : α) (w : World) : Prop := ∀ os : OsState, (endC p M w os).map f = some v
theorem Asks.at_ {α : Type} {p : Program} {M : Nat} {f : SharedT → α} {v : α} {w : World} (h : Asks p M f v w) {os : OsState} {s : SharedT} (e : endC p M w os = some s) : f s = v := by
  have z := h os
  rw [e] at z
  exact Option.some.inj z
theorem run_of {r : OpenRow} {q : Program} {M : Nat} {loose : List PySem.Str} {w : World} {fx : PySem.W.Frag → List Bool} {fn : List He.DefD}
    (h1 : Asks r.prog M (fun s => looksF r.prog (boot_heap w.params) s.abs) true w)
    (h2 : Asks r.prog M (fun s => seenQ q loose (importedModules r.prog.main.body) (fun s => xlAt q [] s && recOk r.toRowW.records s) s.abs) (openGood q loose) w)
    (h3 : ∀ (os : OsState) (s : SharedT), endC r.prog M w os = some s → SaysC fx fn (frC (getT s))) : RunEq r q (hookC fx fn) (obC fx fn) M loose w := fun os => by
  have z := h1 os
  cases e : endC r.prog M w os with
  | none => rw [e] at z; cases z
  | some s =>
    have e' : endF (stepQ (denQ tabQ) r.prog w) M r.prog w os = some s := e
    rw [e']
    have c := h3 os s e
    have e3 : obC fx fn s = valC fn := by
      show ((fx (frC (getT s))).all (fun b => b), (fn.all fun d => d.ok (frC (getT s))), fn.map fun d => He.fnW (frC (getT s)) d.at_) = (true, true, fn.map He.DefD.val)
      rw [c.f, c.d, c.v]
    show some (looksF r.prog (boot_heap w.params) s.abs, _, obC fx fn s) = some (true, openGood q loose, valC fn)
    rw [h1.at_ e, h2.at_ e, e3]
end
/-! ### a law's end -/
theorem walk_ofC {l : PySem.W.OpenLaw} {n k : Nat} {q : Program} {loose : List Str} {XP : (Str → Option Value) → Heap → Prop} {YP : World → Heap → Prop} {d : DefRec} {CX : World → CXT} {x : Str}
    (hn : l.most = some n) (hn2 : n ≤ sizeLine) (hdf : d.params.defaults = []) (hr : Room k callerA)
    (F : ∀ (w : World) (mg : Str → Option Value) (fa : Addr) (h : Heap), YP w h → h.Ns mainGlobals mg → mg d.name = some (.ref fa) →
      ∃ (K : PySem.W.Frag) (fd : FuncData) (sp : Sp), K.In h ∧ (∀ (s : Shared) (u : Value), BindsTo s fd ⟨[u], []⟩ [(x, u)]) ∧
        (∀ (H : Hp) (a : Addr) (ns : List Int), ns.length ≤ n → Only H → SqL K H a (ns.map V.int) → sp [.ref a] H (fun v _ => v = .bl true) fun _ _ _ => False) ∧
        ∀ base : Heap, K.In base → base.Ns mainGlobals mg → FnOk l.prog w K mg base (CX w) k fa fd [x] sp)
    (hCX : ∀ (w : World) (H : Hp) (s : Shared) (e : Value) (s' : Shared), CX w [] H s (fun _ _ _ => False) e s' → False) :
    PySem.W.WalkO q loose XP YP l.row.toRowW d [] (fun f vs => PySem.call f vs) := by
  refine Att.attach_call hn hdf fun w s₀ s₁ mg mb fa o pm cd doc a vs ns G Y ho hd hcd hmg hobj hints hlen hg => ?_
  obtain ⟨K, fd, sp, KX, hb, hsp, hF⟩ := F w mg fa _ Y G.T.g hmg
  exact law_call KX G.T.g G.T.b G.T.builtins G.T.nolimit hg hobj hints (Nat.le_trans hlen hn2) hr hF hb (fun H hO hS => hsp H a ns hlen hO hS) fun H e s' => hCX w H s₁ e s'
end TW

/-! an own error with a field of its own, whose __init__ calls its base's by name -/
namespace PySem
namespace TrapX
open PySem.W PySem.Calls PyProof.Rows PySem.HandSPX
/-! ### the text of __init__ -/
def iA (p1 p2 : Pos) : Arguments := { posonlyargs := [], args := [{ arg := "self", annotation := none, pos := p1 }, { arg := "signal", annotation := none, pos := p2 }], vararg := none, kwonlyargs := [], kw_defaults := [], kwarg := none, defaults := [] }
def iB (n1 n2 n3 n4 n5 n6 q1 q2 q3 q4 : Pos) : List Stmt := [.Expr (.Call (.Attribute (.Name "ReckonError" n1) "__init__" n2) [.Name "self" n3, .Name "signal" n4] [] n5) n6, .Assign [.Attribute (.Name "self" q1) "signal" q2] (.Name "signal" q3) q4]
def iS : Scope := { kind := .function, names := [(PySem.Str.ofString "self", .local), (PySem.Str.ofString "signal", .local), (PySem.Str.ofString "ReckonError", .globalImplicit)], isGenerator := false, isCoroutine := false, more := [] }
/-- what the written part says of Trapped, at C, of its __init__, at fI, and of its base, at B -/
structure TrapTxt (K : Frag) (mg : Str → Option Value) (C fI B : Addr) : Prop where
  gC : mg "Trapped" = some (.ref C)
  gB : mg "ReckonError" = some (.ref B)
  cls : ∃ nm q N bs bm sn sub ab col dd k0 k1 k2 k3 k5, K.lookup C = some (excClassObj nm q C N bs bm true sn sub ab col dd k0 k1 k2 k3 k5 "ValueError.__new__") ∧ refsVE bm = true
  sa : findIn K (.ref C) "__setattr__" = some (some (.builtin "object.__setattr__"))
  ga : findIn K (.ref C) "__getattribute__" = some (some (.builtin "BaseException.__getattribute__"))
  gg : findIn K (.ref C) "__getattr__" = some none
  noN : findIn K (.ref C) "signal" = some none
  iC : findIn K (.ref C) "__init__" = some (some (.ref fI))
  tC : typeIn K (.ref fI) = some (.type "function")
  kC : keepIn K (.ref C) = true
  exC : subIn K (.ref C) (.type "BaseException") = some true
  tyC : typeIn K (.ref C) = some (.type "type")
  hdC : hasDictIn K C = true
  gaB : specialIn K (.ref B) "__getattribute__" = some (some (.builtin "type.__getattribute__"))
  rdB : readsIn K B (.type "type") = true
  inB : findCls K (.ref B) (.type "type") "__init__" = some (.val (.builtin "ValueError.__init__"))
  fn : ∃ (oc : Value) (od : Option Addr) (kV doc pm : Value) (an : Option Addr) (cdv ct : Value) (osl : Array (Option Value)) (p1 p2 n1 n2 n3 n4 n5 n6 q1 q2 q3 q4 : Pos),
    K.lookup fI = some ⟨oc, od, .func (fnOf "__init__" "Trapped.__init__" (iA p1 p2) (iB n1 n2 n3 n4 n5 n6 q1 q2 q3 q4) iS .none kV doc pm an cdv ct), osl⟩ ∧ codeIn K cdv "Trapped.__init__" = true ∧ (n2.endLine == n5.line) = true
/-- an own error class, its chain of own classes ahead of ValueError's -/
def excOwnB (K : Frag) (C : Addr) : Bool := match K.lookup C with
  | some ⟨.type "type", _, .cls cd, sl⟩ => (match cd.mro, sl.toList with
    | .ref C' :: bm, [_, _, _, _, some (.builtin n), _] => C' == C && n == "ValueError.__new__" && !cd.hasDel && cd.hasDict && refsVE bm
    | _, _ => false)
  | _ => false
theorem excOwnB_ok {K : Frag} {C : Addr} (h : excOwnB K C = true) : ∃ nm q N bs bm sn sub ab col dd k0 k1 k2 k3 k5, K.lookup C = some (excClassObj nm q C N bs bm true sn sub ab col dd k0 k1 k2 k3 k5 "ValueError.__new__") ∧ refsVE bm = true := by
  unfold excOwnB at h
  split at h
  · rename_i dd cd sl ho
    split at h
    · rename_i C' bm k0 k1 k2 k3 n k5 hm hs
      simp only [Bool.and_eq_true, beq_iff_eq, Bool.not_eq_true'] at h
      obtain ⟨⟨⟨⟨rfl, rfl⟩, hdel⟩, hdi⟩, hr⟩ := h
      obtain ⟨nm, bs, mro, ns, qn, hd, sn, sub, ab, col, del⟩ := cd
      dsimp only at hm hdel hdi
      subst hm hdel hdi
      have hsl : sl = #[k0, k1, k2, k3, some (.builtin "ValueError.__new__"), k5] := by
        obtain ⟨l⟩ := sl
        simp only at hs
        rw [hs]
      subst hsl
      exact ⟨nm, qn, ns, bs, bm, sn, sub, ab, col, dd, k0, k1, k2, k3, k5, ho, hr⟩
    · cases h
  · cases h
theorem one_size (v : Value) : [v].length ≤ sizeLine := by
  rw [sizeLine_eq]
  exact (by decide : 1 ≤ 16777216)
theorem kept_but {K : Frag} {h h' : Heap} {x : Addr} (X : K.In h) (hx : K.lookup x = none) (k : ∀ b o, b ≠ x → h.get? b = some o → h'.get? b = some o) : K.In h' := fun a o e =>
  k a o (fun z => by rw [z, hx] at e; cases e) (X a o e)
theorem ns_but {h h' : Heap} {x L : Addr} {m : Str → Option Value} (hn : h.Ns L m) (hne : L ≠ x) (k : ∀ b o, b ≠ x → h.get? b = some o → h'.get? b = some o) : h'.Ns L m := by
  obtain ⟨o, es, ep, ho, rest⟩ := hn
  exact ⟨o, es, ep, k _ _ hne ho, rest⟩
theorem ldC {M : Model} {s : Shared} {name : Str} {scope : Scope} {L a : Addr} {cd : Value} {m : Str → Option Value} {x : Str} {pos : Pos} {v : Value} {Q : Value → Shared → Prop} {A : Around} {E : Value → Shared → Prop} (hn : s.heap.Ns L m) (hv : m x = some v) (h : Q v s)
    (hk : scope.kind = .function := by rfl) (hl : (envOfC name scope L a cd).kindOf x = some .local := by rfl) (hd : (x == ("__debug__" : Str)) = false := by decide) :
    wpAny M A (eval (.Name x pos) (envOfC name scope L a cd)) Q E s := wpAny_Name (wpAny_loadName_local hk hl hn hv h) hd
theorem ldGC {M : Model} {s : Shared} {name : Str} {scope : Scope} {L a : Addr} {cd : Value} {mg : Str → Option Value} {x : Str} {pos : Pos} {v : Value} {Q : Value → Shared → Prop} {A : Around} {E : Value → Shared → Prop} (hn : s.heap.Ns mainGlobals mg) (hv : mg x = some v) (h : Q v s)
    (hk : scope.kind = .function := by rfl) (hl : (envOfC name scope L a cd).kindOf x = some .globalImplicit := by rfl) (hd : (x == ("__debug__" : Str)) = false := by decide) :
    wpAny M A (eval (.Name x pos) (envOfC name scope L a cd)) Q E s := Calls.Name_function_global hk hl (Calls.loadGlobal_global (env := envOfC name scope L a cd) hn hv h) hd
theorem he_of {o : Expr} {m : Str} {apos pos : Pos} {env : Env} {args : List Expr} (hf : methodCallForm (args.length + ([] : List Keyword).length) (backTo pos (starEach args env)) (backToKw pos (keywordEach [] env)) = true) (hl : (apos.endLine == pos.line) = true) (hb : attributeBase o m env (eval o env) = eval o env) :
    eval (.Call (.Attribute o m apos) args [] pos) env = (do
      let ov ← eval o env
      standAt apos.atName
      let (f, first) ← holding [ov] (getMethod ov m (L2.plainOf o env))
      callWith pos f first (backTo pos (starEach args env)) (backToKw pos (keywordEach [] env))) := by
  have e1 : eval (.Call (.Attribute o m apos) args [] pos) env = (do
      let ov ← attributeBase o m env (eval o env)
      standAt apos.atName
      methodCall o m apos pos env ov (args.length + ([] : List Keyword).length) (backTo pos (starEach args env)) (backToKw pos (keywordEach [] env))) := rfl
  rw [e1, hb]
  simp only [L2.mcall_line hf hl]
/-- a made one -/
structure OwnMade (h h' : Heap) (e C d : Addr) (v : Value) : Prop where
  keep : ∀ b o, h.get? b = some o → h'.get? b = some o
  new : h.objs.size ≤ e
  obj : ∃ oe vs, h'.get? e = some oe ∧ oe.cls = .ref C ∧ oe.dict = some d ∧ oe.data = .fields vs ∧ vs[1]? = some .none
  dbig : h.objs.size ≤ d
  dne : d ≠ e
  ns : h'.Ns1 d (fun y => if y = "signal" then some v else none)
/-- what __init__ leaves of a fresh exception at x -/
structure InitEnd (h h' : Heap) (x C dx t1 : Addr) (v : Value) : Prop where
  keep : ∀ b o, b ≠ x → h.get? b = some o → h'.get? b = some o
  obj : h'.get? x = some { cls := .ref C, dict := some dx, data := .fields #[.ref t1, .none, .none, .none, .bool false, .none] }
  dbig : h.objs.size ≤ dx
  dne : dx ≠ x
  ns : h'.Ns1 dx (fun y => if y = "signal" then some v else none)
section
variable {prog : Program} {w : World} {A : Around} {E : Value → Shared → Prop} {R : Result → Shared → Prop} {s : Shared} {K : Frag} {mg : Str → Option Value} {C fI B : Addr}
theorem trap_init (T : TrapTxt K mg C fI B) {x t0 : Addr} {v : Value} (X : K.In s.heap) (G : s.heap.Ns mainGlobals mg) (hlim : s.heap.NoLimit) (hx : s.heap.get? x = some (excO C t0)) (hnx : K.lookup x = none) (hroom : A.depth < recursionLimit)
    (hq : ∀ h' tk dx t1, InitEnd s.heap h' x C dx t1 v → R (.ok (.ret .none)) { s with heap := h', toks := tk }) :
    codeAny (model prog w) A (.call (.ref fI) ⟨[.ref x, v], []⟩) R s := by
  obtain ⟨oc, od, kV, doc, pm, an, cdv, ct, osl, p1, p2, n1, n2, n3, n4, n5, n6, q1, q2, q3, q4, ho, hcd, hln⟩ := T.fn
  obtain ⟨nm, q, N, bs, bm, sn, sub, ab, col, dd, k0, k1, k2, k3, k5, hC, hbm⟩ := T.cls
  have hcl : clsIn K C = some { name := nm, bases := bs, mro := .ref C :: bm, ns := N, qualname := q, hasDict := true, slotNames := sn, subclasses := sub, abstract := ab, collection := col, hasDel := false } := by unfold clsIn; rw [hC] <;> rfl
  refine Att.call_fn (binds := [("self", .ref x), ("signal", v)]) X hlim ho hcd hroom (BindsTo.of_eq (by first | rfl | with_unfolding_all rfl)) (by first | rfl | decide | with_unfolding_all rfl) (fun s₁ IC => ?_) rfl rfl rfl
  obtain ⟨h₁, tk₁, rfl⟩ := IC.toInCall.same
  have k : ∀ b o, s.heap.get? b = some o → h₁.get? b = some o := IC.toInCall.keep
  have hn := IC.toInCall.ns
  have hxL : s.heap.objs.size ≠ x := Nat.ne_of_gt (Heap.lt_size hx)
  have X₁ : K.In h₁ := X.keeps k
  have G₁ : h₁.Ns mainGlobals mg := G.keeps k
  have hx₁ := k _ _ hx
  have z : s.heap.objs.size < h₁.objs.size := hn.lt
  show wpAny _ _ (execs _ _) _ _ _
  refine wpAny_execs_cons (wpAny_Expr_any ?_)
  refine methodCall_KW ?_ (he_of (by rfl) hln (by rfl))
  refine ldGC G₁ T.gB ?_
  refine method_cls X₁ T.gaB ?_
  refine cls_value X₁ T.rdB T.inB (by rfl) ?_
  refine PyProof.Rows.callWith_builtin1 (e := .Name "self" n3) (rest := [.Name "signal" n4]) ?_
  refine Calls.spliced_cons ?_
  refine ldC (v := .ref x) hn (by first | rfl | with_unfolding_all rfl | kernel_rfl) ?_
  refine Calls.spliced_cons ?_
  refine ldC (v := v) hn (by first | rfl | with_unfolding_all rfl | kernel_rfl) ?_
  refine Calls.spliced_nil ?_
  have EF := F.excBase_ValueError
  refine wpAny_call (codeAny_call_builtin EF.init.plain EF.initEntry (check_init_own EF (fun X => refsVE_contains X bm hbm) (X₁ _ _ hC) hx₁ rfl ?_))
  refine exc_init_tree (cls := .ref C) (t0 := t0) (dv := none) (c2 := .none) (c3 := .none) (b4 := .bool false) hx₁ (one_size v) fun h₂ k₂ e₂ t₂ => ?_
  have hn₂ := ns_but hn hxL k₂
  have X₂ : K.In h₂ := kept_but X₁ hnx k₂
  show wpAny _ _ (execs _ _) _ _ _
  refine wpAny_execs_cons (plainObj_wpAny_Assign_Attribute ?_)
  refine ldC (v := v) hn₂ (by first | rfl | with_unfolding_all rfl | kernel_rfl) (ldC (v := .ref x) hn₂ (by first | rfl | with_unfolding_all rfl | kernel_rfl) ?_)
  refine set_plain X₂ (ox := excO C h₁.objs.size) (od := none) ⟨e₂, rfl, rfl, trivial⟩ T.sa ?_
  refine exc_osa X₂ e₂ hcl (show refsVE (.ref C :: bm) = true from hbm) rfl T.noN (fun h₃ tk₃ dx k₃ dn dne hx₃ hn₃ => ?_)
  show wpAny _ _ (execs _ _) _ _ _
  have sz : h₁.objs.size < h₂.objs.size := Heap.lt_size t₂
  have dn' : h₂.objs.size ≤ dx := dn
  exact wpAny_execs_nil (hq h₃ tk₃ dx _ ⟨fun b o hb e => k₃ b o hb (k₂ b o hb (k b o e)), hx₃, by omega, dne, hn₃⟩)
theorem trap_made (T : TrapTxt K mg C fI B) {v : Value} (X : K.In s.heap) (G : s.heap.Ns mainGlobals mg) (hlim : s.heap.NoLimit) (hroom : A.depth + 1 < recursionLimit)
    (hq : ∀ h' tk e d, OwnMade s.heap h' e C d v → R (.ok (.ret (.ref e))) { s with heap := h', toks := tk }) :
    codeAny (model prog w) A (.call (.ref C) ⟨[v], []⟩) R s := by
  obtain ⟨nm, q, N, bs, bm, sn, sub, ab, col, dd, k0, k1, k2, k3, k5, hC, hbm⟩ := T.cls
  obtain ⟨hp, g, dr, tk, os⟩ := s
  have k : ∀ b o, hp.get? b = some o → ((hp.push (kdv_tup [v])).push (excO C hp.objs.size)).get? b = some o := fun b o e => Heap.get?_push_of_some _ (Heap.get?_push_of_some _ e)
  have hget : ((hp.push (kdv_tup [v])).push (excO C hp.objs.size)).get? (hp.objs.size + 1) = some (excO C hp.objs.size) := by heap_get
  have hnx : K.lookup (hp.objs.size + 1) = none := by
    cases e : K.lookup (hp.objs.size + 1) with
    | none => rfl
    | some o =>
      have z : hp.get? (hp.objs.size + 1) = some o := X _ _ e
      exact absurd (Nat.lt_of_succ_lt (Heap.lt_size z)) (Nat.lt_irrefl _)
  refine call_own F.excBase_ValueError (fun X => refsVE_contains X bm hbm) (X _ _ hC) (looks_findIn X T.iC) (fun self => bind_fn X self T.tC) (one_size v) ?_
  refine trap_init (s := ⟨(hp.push (kdv_tup [v])).push (excO C hp.objs.size), g, dr, tk, os⟩) T (X.keeps k) (G.keeps k) (hlim.keeps k) hget hnx ?_ fun h' tk' dx t1 ⟨k', hx, dn, dne, hns⟩ => ?_
  · show A.depth + 1 < recursionLimit
    exact hroom
  · have old : ∀ b o, hp.get? b = some o → h'.get? b = some o := fun b o e => k' b o (Nat.ne_of_lt (Nat.lt_succ_of_lt (Heap.lt_size e))) (k b o e)
    have z : hp.objs.size + 1 + 1 ≤ dx := by
      first
        | (simpa only [Heap.size_push] using dn)
        | exact dn
        | (have q := dn; rw [Heap.size_push, Heap.size_push] at q; exact q)
    exact ⟨rfl, hq h' tk' (hp.objs.size + 1) dx ⟨old, Nat.le_succ _, ⟨_, _, hx, rfl, rfl, rfl, rfl⟩, Nat.le_trans (Nat.le_trans (Nat.le_succ _) (Nat.le_succ _)) z, dne, hns⟩⟩
end
end TrapX
end PySem
namespace TQ
open PySem PySem.Spec PyProof.Rows L2
theorem relO_sig {v : V} {v' : Value} (r : RelV v v') (f : Str) : RelO (List.lookup f [(("signal" : Str), v)]) (if f = "signal" then some v' else none) := by
  by_cases hw : f = "signal"
  · subst hw
    rw [if_pos rfl]
    have q : List.lookup ("signal" : Str) [(("signal" : Str), v)] = some v := by simp [List.lookup]
    rw [q]
    exact r
  · rw [if_neg hw]
    have qw : (f == ("signal" : Str)) = false := by simpa using hw
    have q2 : List.lookup f [(("signal" : Str), v)] = none := by simp [List.lookup, qw]
    rw [q2]
    trivial
section
variable {X : Cx} {C fI B : Addr}
/-- Trapped(e) -/
def tMkTrap (C : Addr) (ta : TA) : L2.St → Hp → XK → Prop := fun σ H Q => ta σ H fun vs H1 => ∃ v, vs = [v] ∧ ∀ d, H1 d = none → Q (.ref C) (some d) (upd H1 d (.xd [(("signal" : Str), v)]))
theorem pmk_trap {a : Expr} {ta : TA} {p pos : Pos} {k : Nat} (T : PySem.TrapX.TrapTxt X.K X.mg C fI B) (hr : Room k X.A) (ha : PA X [a] ta) (hg : Gl X "Trapped" := by rfl)
    (he : starEach (a :: []) X.env = (false, eval a X.env) :: starEach [] X.env := by rfl) (hpl : (backTo pos (starEach [] X.env)).any (·.1) = false := by rfl) :
    PMk X (.Call (.Name "Trapped" p) [a] [] pos) (tMkTrap C ta) := by
  intro pins s σ H Q I h
  refine wpAny_Call_Name_kw (ld_glob I hg T.gC ?_)
  refine PySem.W.callWith_K (h₀ := X.base) I.ok.mod.kin T.kC (thn (ha.run pos pins s σ H _ I h) fun us s1 hh => ?_) he hpl
  obtain ⟨vs, H1, I1, r1, v, ev, q1⟩ := hh
  subst ev
  refine ⟨I1.kIn, ?_⟩
  cases r1 with
  | cons rv rn =>
    rename_i v' us'
    cases rn
    show wpAny _ _ (call (.ref C) [v']) _ _ _
    have hlim := I1.nolimit
    have hG : s1.heap.Ns mainGlobals X.mg := I1.mod.glob.keeps I1.bk
    obtain ⟨hp, g, dr, tk, os⟩ := s1
    refine wpAny_call (PySem.TrapX.trap_made T I1.kIn hG hlim (by have := hr.dp; omega) fun h' tk' e d M => ?_)
    show MkP X pins σ Q (.ref e) ⟨h', g, dr, tk', os⟩
    obtain ⟨oe, fv, hoe, hc, hd, hdat, h1⟩ := M.obj
    have hns := M.ns
    obtain ⟨G', g1, g2⟩ := restrict h' fun b => decide (b ≠ e)
    have gk : ∀ b, b ≠ e → G'.get? b = h'.get? b := fun b hb => g1 b (decide_eq_true hb)
    have ge : G'.get? e = none := g2 e (by simp)
    have old : ∀ b o, hp.get? b = some o → G'.get? b = some o := fun b o q => (gk b (Nat.ne_of_lt (Nat.lt_of_lt_of_le (Heap.lt_size q) M.new))).trans (M.keep b o q)
    have ob : ObjOk X.prog X.w (upd H1 d (.xd [(("signal" : Str), v)])) G' d (.xd [(("signal" : Str), v)]) :=
      ⟨_, hns.at (fun o q => (gk d M.dne).trans q), fun f => relO_sig rv f⟩
    have J : Inv X pins σ (upd H1 d (.xd [(("signal" : Str), v)])) ⟨G', g, dr, tk', os⟩ := I1.laid (t' := tk') old M.dbig ob
    refine ⟨e, oe, fv, ⟨G', g, dr, tk', os⟩, _, .ref C, some d, rfl, J, fun b o q => ?_, ge, hoe, ⟨hc, hd⟩, hdat, h1, ?_, rfl, I1.bare, raises_own T.exC T.tyC, q1 d (I1.hok.fresh M.dbig)⟩
    · by_cases hb : b = e
      · have q' : G'.get? b = some o := q
        rw [hb, ge] at q'; cases q'
      · exact (gk b hb).symm.trans q
    · rw [upd_ne (Ne.symm M.dne)]
      exact I1.hok.fresh M.new
/-- raise Trapped(e) -/
def sTrap (C : Addr) (t : QA) : QS := fun D env M => t env M (fun xs M1 => ∃ x, xs = [x] ∧ D.ex (.ref C) (some x) env M1) (exE D env)
theorem qs_trap {a : Expr} {t : QA} {W : WX} {p pos pos2 : Pos} {k : Nat} (hc : X.calm = true) (T : PySem.TrapX.TrapTxt X.K X.mg C fI B) (hr : Room k X.A) (tk : Takes X W) (ha : QPA X W [a] t) (hg : Gl X "Trapped" := by rfl)
    (he : starEach (a :: []) X.env = (false, eval a X.env) :: starEach [] X.env := by rfl) (hpl : (backTo pos (starEach [] X.env)).any (·.1) = false := by rfl) :
    QPS X W (.Raise (some (.Call (.Name "Trapped" p) [a] [] pos)) none pos2) (sTrap C t) :=
  (ps_raise hc tk (pmk_trap T hr ha hg he hpl)).imp fun D σ H ⟨env, M, G, D0, S, q, L⟩ => by
    refine ⟨env, M, G, _, _, S, q, fun xs M1 vs H1 G1 e1 w1 r1 q1 => ?_, liftX_E S.env L.ex⟩
    obtain ⟨x, rfl, q1⟩ := q1
    obtain ⟨v, rfl, rv⟩ := reps1 r1
    refine ⟨v, rfl, fun d hd => ?_⟩
    have hG := Ext.new (o := HO.xd [(("signal" : Str), v)]) (w1.free hd)
    exact L.ex (.ref C) (some x) env M1 (some d) σ _ _ (e1.trans hG) ⟨S.env.mono (e1.trans hG), w1.newG hd⟩ ⟨d, v, rfl, upd_same, Rep.mono hG _ _ rv⟩ q1
/-! ### try: .. except C as n: .., where only instances of D come -/
def sTryAs (K : PySem.W.Frag) (D : Addr) (i : Nat) (c : Value) (tb : QS) (ts : Addr → Addr → QS) : QS := fun De env M =>
  tb { De with ex := fun cls pl env' M' => ∃ b, PySem.W.exmOne K cls c = some b ∧
    (b = true → cls = .ref D ∧ ∃ x, pl = some x ∧ ∀ a d, M' a = none → ts a d { nx := fun e m => De.nx (e.set i none) m, rt := De.rt, bk := fun e m => De.bk (e.set i none) m, ct := fun e m => De.ct (e.set i none) m } (env'.set i (some (.exc a d x))) M') ∧
    (b = false → De.ex cls pl env' M') } env M
theorem Sim.unset {K : PySem.W.Frag} {env : Sl} {M : Mem} {G : Hp} {σ : L2.St} {H : Hp} (i : Nat) (S : Sim K env M G σ H) : Sim K (env.set i none) M G (σ.set i none) H := by
  refine ⟨⟨by simp [S.env.len], fun j x e => ?_⟩, S.wf⟩
  by_cases hj : i = j
  · subst hj
    rw [List.getElem?_set] at e
    rw [if_pos rfl] at e
    split at e <;> cases e
  · rw [List.getElem?_set_ne hj] at e ⊢
    exact S.env.get j x e
theorem qs_tryAs {x n : Str} {c : Value} {i : Nat} {body suite : List Stmt} {b₀ : Stmt} {np pos pos' : Pos} {tb : QS} {ts : Addr → Addr → QS} {W : WX} {D : Addr} (hs : X.stack = X.env :: X.outer) (hf : X.env.frame = some X.env.locals) (hN : X.N.Nodup) (hi : X.N[i]? = some n) (hln : X.env.kindOf n = some .local) (hc : Names X x c) (tk : Takes X W)
    (hb : ∀ (W : WX) (pn : List (Addr × Obj)) (xe : Value → Shared → Prop), Takes (X.tr pn xe) W → PassesOwn (model X.prog X.w) X.A X.env xe → QPSs (X.tr pn xe) W body tb)
    (hsu : ∀ (a : Addr) (oe : Obj) (d : Addr) (pn : List (Addr × Obj)), Zc (.ref D) (some d) oe → (∃ vs, oe.data = .fields vs) → QPSs (X.suite a ((a, oe) :: pn)) W0 (b₀ :: suite) (ts a d)) :
    QPS X W (.Try body [.ExceptHandler (some (.Name x np)) (some n) (b₀ :: suite) pos'] [] [] pos) (sTryAs X.K D i c tb ts) :=
  (ps_try_as (tb := fun W => tieS X.K W tb) (ts := fun a cls d => fun De σ H => cls = .ref D ∧ ∃ dd, d = some dd ∧ tieS X.K W0 (ts a dd) De σ H) hs hf hN hi hln hc tk (fun W pn xe tk po => hb W pn xe tk po) (fun a oe cls d pn hz hv => by
    by_cases h1 : cls = .ref D
    · subst h1
      cases d with
      | none => exact ⟨fun pins s σ H De I ⟨_, dd, e, _⟩ => nomatch e⟩
      | some dd => exact (hsu a oe dd pn hz hv).imp fun De σ H ⟨_, dd', e, h⟩ => by cases e; exact h
    · exact ⟨fun pins s σ H De I ⟨e, _⟩ => absurd e h1⟩)).imp fun De σ H ⟨env, M, G, D0, S, q, L⟩ => by
    refine ⟨env, M, G, _, S, q, ⟨L.nx, L.rt, L.bk, L.ct, fun cls pl env' M' d σ' H' G' e1 S1 xr q1 => ?_⟩⟩
    obtain ⟨b, hb1, h1, h2⟩ := q1
    refine ⟨b, hb1, fun hb2 a ha => ?_, fun hb2 => L.ex cls pl env' M' d σ' H' G' e1 S1 xr (h2 hb2)⟩
    obtain ⟨hcls, x, rfl, h3⟩ := h1 hb2
    obtain ⟨dd, v, rfl, hg, rv⟩ := xr
    refine ⟨hcls, dd, rfl, _, M', G', _, S1.set (i := i) (x := .exc a dd x) (v := .ref a) ⟨rfl, v, hg, rv⟩, h3 a dd (S1.wf.freeM ha), ⟨?_, L.rt.mono e1, ?_, ?_, fun _ _ _ _ _ _ _ _ _ _ _ z => z.elim⟩⟩
    · exact fun env2 M2 σ2 H2 G2 e2 S2 q2 => L.nx _ M2 _ H2 G2 (e1.trans e2) (S2.unset i) q2
    · exact fun env2 M2 σ2 H2 G2 e2 S2 q2 => L.bk _ M2 _ H2 G2 (e1.trans e2) (S2.unset i) q2
    · exact fun env2 M2 σ2 H2 G2 e2 S2 q2 => L.ct _ M2 _ H2 G2 (e1.trans e2) (S2.unset i) q2
/-- e.signal, e the error that the suite holds -/
def qSig (a d : Addr) (te : QT) : QT := fun env M Q E => te env M (fun x M1 => ∃ y, x = .exc a d y ∧ Q y M1) E
theorem qe_sig {a d : Addr} {oe : Obj} {pn : List (Addr × Obj)} {e : Expr} {te : QT} {pos : Pos} {W : WX} (T : PySem.TrapX.TrapTxt X.K X.mg C fI B) (hz : Zc (.ref C) (some d) oe) (hf : ∃ vs, oe.data = .fields vs) (he : QE (X.suite a ((a, oe) :: pn)) W e te)
    (hb : attributeBase e "signal" X.env (eval e X.env) = eval e X.env := by rfl) :
    QE (X.suite a ((a, oe) :: pn)) W (.Attribute e "signal" pos) (qSig a d te) := by
  refine ⟨fun pins s σ H Q I ⟨env, M, G, Q0, E0, S, q, L, LE⟩ => ?_⟩
  refine attr_of hb (thn (he.run pins s σ H (fun v H1 => ∃ G1 M1 y u, Ext G G1 ∧ Wf X.K M1 H1 G1 ∧ v = .ref a ∧ G1 d = some (.xd [(("signal" : Str), u)]) ∧ Rep X.K G1 y u ∧ Q0 y M1) I ⟨env, M, G, _, E0, S, q, fun x M1 v H1 G1 e1 w1 r1 q1 => ?_, LE⟩) fun u s1 hh => ?_)
  · obtain ⟨y, rfl, q1⟩ := q1
    obtain ⟨rfl, u, hg, ru⟩ := r1
    exact ⟨G1, M1, y, u, e1, w1, rfl, hg, ru, q1⟩
  · obtain ⟨x, H1, I1, rx, G1, M1, y, v, e1, w1, rfl, hg, ry, q1⟩ := hh
    obtain rfl : u = Value.ref a := rx
    have ea := w1.sub _ _ hg
    obtain ⟨ha, _⟩ := I1.pin (a, oe) (List.mem_append_left _ List.mem_cons_self)
    obtain ⟨vs, hd⟩ := hf
    have hx : ObjOk X.prog X.w H1 s1.heap d (.xd [(("signal" : Str), v)]) := I1.hok d _ ea
    obtain ⟨mA, hns, hr⟩ := hx
    obtain ⟨od, ho, hl⟩ := lookIn_ns hns
    have l : List.lookup ("signal" : Str) [(("signal" : Str), v)] = some v := by simp [List.lookup]
    obtain ⟨u, hu, ru⟩ := RelO.some_of (v := v) (o := mA "signal") (by rw [← l]; exact hr "signal")
    have J : PySem.W.InstAt s1.heap a oe C (some od) := ⟨ha, hz.1, by unfold PySem.W.notCls; rw [hd] <;> rfl, by rw [hz.2]; exact ho⟩
    exact HandSPX.exc_get I1.kIn J T.ga T.gg T.exC (PySem.W.findObj_own T.hdC T.noN rfl (by rw [hl, hu])) (handed_of ru) ⟨v, H1, I1.tok _, ru, L y M1 v H1 G1 e1 w1 ry q1⟩
/-- isinstance(e, c), e the error that the suite holds -/
def cIsE (K : PySem.W.Frag) (D a d : Addr) : FC := fun xs M Q => ∃ y c u b, xs = [.exc a d y, c] ∧ clsP c = some u ∧ PySem.W.kitOne K (.ref D) u = some b ∧ Q (.bl b) M
theorem cq_isE {a d D : Addr} {oe : Obj} {pn : List (Addr × Obj)} (Z : ExcC X.K D) (hz : Zc (.ref D) (some d) oe) (hf : ∃ vs, oe.data = .fields vs) : CallQ (X.suite a ((a, oe) :: pn)) (.builtin "isinstance") (cIsE X.K D a d) := by
  intro pins s σ H vs us Q I r ⟨xs, M, G, Q0, rx, w, q, L⟩
  obtain ⟨y, c, k, b, rfl, h3, h4, q⟩ := q
  obtain ⟨v, u, rfl, r1, r2⟩ := reps2 rx
  obtain ⟨rfl, z, hg, _⟩ := r1
  cases r with
  | cons rv rr => cases rr with
    | cons ru rr =>
      cases rr
      cases rv
      have hk : ∀ x, RelV u x → x = k := fun x hx => by
        cases c with
        | ty n => cases h3; cases r2; exact hx
        | ref C => cases h3; cases r2; exact hx
        | _ => cases h3
      have ec := hk _ ru
      subst ec
      obtain ⟨hget, _⟩ := I.pin (a, oe) (List.mem_append.mpr (.inl List.mem_cons_self))
      obtain ⟨vs, hv⟩ := hf
      have hx : ObjOk X.prog X.w H s.heap d (.xd [(("signal" : Str), z)]) := I.hok d _ (w.sub _ _ hg)
      obtain ⟨mA, hns, hr⟩ := hx
      obtain ⟨od, ho, _⟩ := lookIn_ns hns
      have J : PySem.W.InstAt s.heap a oe D (some od) := ⟨hget, hz.1, by unfold PySem.W.notCls; rw [hv] <;> rfl, by rw [hz.2]; exact ho⟩
      have hcl : (PySem.W.clsIn X.K D).isSome = true := by
        have h := Z.hd
        unfold PySem.W.hasDictIn at h
        cases e : PySem.W.clsIn X.K D with
        | none => rw [e] at h; cases h
        | some cd => rfl
      exact PySem.W.kia_one (PySem.W.kitx_exc hcl Z.hg Z.hk Z.hs Z.ha Z.hn Z.ht Z.hm) I.kIn J h4 (fun z => nomatch z) fun tk => ⟨.bl b, H, I.kept (t' := tk) fun _ _ z => z, rfl, L (.bl b) M _ H G (Ext.refl G) w rfl q⟩
theorem trap_of {K : PySem.W.Frag} {mg : Str → Option Value} {C fI B : Addr} {fd : FuncData} {p1 p2 n1 n2 n3 n4 n5 n6 q1 q2 q3 q4 : Pos} (F : FunD K "__init__" "Trapped.__init__" (PySem.TrapX.iA p1 p2) (PySem.TrapX.iB n1 n2 n3 n4 n5 n6 q1 q2 q3 q4) PySem.TrapX.iS [] [] fI fd)
    (gC : mg "Trapped" = some (.ref C)) (gB : mg "ReckonError" = some (.ref B)) (cls : PySem.TrapX.excOwnB K C = true) (sa : PySem.W.findIn K (.ref C) "__setattr__" = some (some (.builtin "object.__setattr__")))
    (ga : PySem.W.findIn K (.ref C) "__getattribute__" = some (some (.builtin "BaseException.__getattribute__"))) (gg : PySem.W.findIn K (.ref C) "__getattr__" = some none) (noN : PySem.W.findIn K (.ref C) "signal" = some none)
    (iC : PySem.W.findIn K (.ref C) "__init__" = some (some (.ref fI))) (tC : PySem.W.typeIn K (.ref fI) = some (.type "function")) (kC : PySem.W.keepIn K (.ref C) = true) (exC : PySem.W.subIn K (.ref C) (.type "BaseException") = some true)
    (tyC : PySem.W.typeIn K (.ref C) = some (.type "type")) (hdC : PySem.W.hasDictIn K C = true) (gaB : PySem.W.specialIn K (.ref B) "__getattribute__" = some (some (.builtin "type.__getattribute__"))) (rdB : PySem.W.readsIn K B (.type "type") = true)
    (inB : PySem.W.findIn K (.ref B) "__init__" = some (some (.builtin "ValueError.__init__"))) (hB : PySem.W.findCls K (.ref B) (.type "type") "__init__" = some (.val (.builtin "ValueError.__init__"))) (hl : (n2.endLine == n5.line) = true) : PySem.TrapX.TrapTxt K mg C fI B := by
  obtain ⟨oc, od, dV, kV, doc, pm, an, cdv, ct, osl, rfl, lk, hcd, hD, _⟩ := F.ex
  rcases hD with ⟨_, rfl⟩ | ⟨e, _⟩
  · exact ⟨gC, gB, PySem.TrapX.excOwnB_ok cls, sa, ga, gg, noN, iC, tC, kC, exC, tyC, hdC, gaB, rdB, hB, ⟨oc, od, kV, doc, pm, an, cdv, ct, osl, p1, p2, n1, n2, n3, n4, n5, n6, q1, q2, q3, q4, lk, hcd, hl⟩⟩
  · exact absurd rfl e
theorem findCls_val {K : PySem.W.Frag} {B : Addr} (h : (match PySem.W.findCls K (.ref B) (.type "type") "__init__" with | some (.val (.builtin z)) => decide (z = "ValueError.__init__") | _ => false) = true) : PySem.W.findCls K (.ref B) (.type "type") "__init__" = some (.val (.builtin "ValueError.__init__")) := by
  split at h
  · rename_i z e
    rw [e, of_decide_eq_true h]
  · cases h
end
end TQ
namespace TN
open PySem PySem.Spec PyProof.Rows L2 TQ TM
section
variable {x y : PV} {env : Sl} {M : Mem} {D : QEnds} {t : QA} {C a d : Addr}
def trapP (C : Addr) (xs : List PV) (M : Mem) [E : Box EK] : Prop := ∃ x, xs = [x] ∧ E.v (.ref C) (some x) M
theorem e_sTrap : sTrap C t D env M = t env M (fun xs M1 => @trapP C xs M1 ⟨exE D env⟩) (exE D env) := rfl
theorem trapP_1 {E : Box EK} : @trapP C [x] M E = E.v (.ref C) (some x) M := propext ⟨fun ⟨_, h, q⟩ => by cases h; exact q, fun q => ⟨_, rfl, q⟩⟩
def sigP (a d : Addr) (x : PV) (M : Mem) [Q : Box PK] : Prop := ∃ y, x = .exc a d y ∧ Q.v y M
theorem e_qSig {te : QT} {Q : PK} {E : EK} : qSig a d te env M Q E = te env M (fun x M1 => @sigP a d x M1 ⟨Q⟩) E := rfl
theorem sigP_exc {Q : Box PK} : @sigP a d (.exc a d y) M Q = Q.v y M := propext ⟨fun ⟨_, h, q⟩ => by cases h; exact q, fun q => ⟨_, rfl, q⟩⟩
def isEB (K : PySem.W.Frag) (C a d : Addr) (xs : List PV) (M : Mem) [Q : Box PK] : Prop := cIsE K C a d xs M Q.v
theorem e_cIsE {K : PySem.W.Frag} {xs : List PV} {Q : PK} : cIsE K C a d xs M Q = @isEB K C a d xs M ⟨Q⟩ := rfl
theorem isEB_of {K : PySem.W.Frag} {c : PV} {u : Value} {b : Bool} {Q : Box PK} (h1 : clsP c = some u) (h2 : PySem.W.kitOne K (.ref C) u = some b) : @isEB K C a d [.exc a d y, c] M Q = Q.v (.bl b) M := propext
  ⟨fun ⟨_, _, _, _, h, g1, g2, q⟩ => by cases h; rw [h1] at g1; cases g1; rw [h2] at g2; cases g2; exact q, fun q => ⟨_, _, _, _, rfl, h1, h2, q⟩⟩
def tryX (K : PySem.W.Frag) (D : Addr) (i : Nat) (c : Value) (ts : Addr → Addr → QS) (De : QEnds) : Value → Option PV → Sl → Mem → Prop := fun cls pl env' M' => ∃ b, PySem.W.exmOne K cls c = some b ∧
    (b = true → cls = .ref D ∧ ∃ x, pl = some x ∧ ∀ a d, M' a = none → ts a d { nx := fun e m => De.nx (e.set i none) m, rt := De.rt, bk := fun e m => De.bk (e.set i none) m, ct := fun e m => De.ct (e.set i none) m } (env'.set i (some (.exc a d x))) M') ∧
    (b = false → De.ex cls pl env' M')
theorem e_sTryAs {K : PySem.W.Frag} {C : Addr} {i : Nat} {c : Value} {tb : QS} {ts : Addr → Addr → QS} : sTryAs K C i c tb ts D env M = tb { D with ex := tryX K C i c ts D } env M := rfl
theorem tryX_own {K : PySem.W.Frag} {C : Addr} {i : Nat} {c : Value} {ts : Addr → Addr → QS} (h : PySem.W.exmOne K (.ref C) c = some true)
    (q : ∀ a d, M a = none → ts a d { nx := fun e m => D.nx (e.set i none) m, rt := D.rt, bk := fun e m => D.bk (e.set i none) m, ct := fun e m => D.ct (e.set i none) m } (env.set i (some (.exc a d x))) M) : tryX K C i c ts D (.ref C) (some x) env M :=
  ⟨true, h, fun _ => ⟨rfl, x, rfl, q⟩, fun z => nomatch z⟩
end
end TN

/-! ### enumerate(tuple) -/
namespace PySem
open Sem (wp)
open AutoSeq1 (wpAny_loadPart')
set_option maxHeartbeats 1000000 in
theorem meets_enumerate_new1 {v : Value} {o : Obj} {H : Heap → Prop} (B : Begins v o H) :
    Meets (Builtin.«enumerate.__new__» ⟨[.type "enumerate", v], []⟩) (fun _ R s => H s.heap ∧
      R (.ok (.ret (.ref (s.heap.push o).objs.size))) { s with heap := (s.heap.push o).push { cls := .type "enumerate", data := .fields #[.none, .bool false, .ref s.heap.objs.size, rawInt 0, .none, .none] } }) :=
  .of_wp fun prog w A R s h => by
    obtain ⟨hp, g, d, tk, os⟩ := s; obtain ⟨h1, h⟩ := h
    have hsub := sub_enumerate
    have q1 : ∀ {A' : Around} {E : Value → Shared → Prop} {Q : Value → Shared → Prop}, Q (.ref hp.objs.size) ⟨hp.push o, g, d, tk, os⟩ → wpAny (model prog w) A' (pyIter v) Q E ⟨hp, g, d, tk, os⟩ :=
      fun q => B.iter prog w _ _ ⟨hp, g, d, tk, os⟩ _ h1 q
    wp_walk using q1
    refine wpAny_stack_any fun st => wpAny_pure ?_
    split
    · rename_i c _ _ _ _ _
      cases (c == Value.type "enumerate")
      · wp_walk using q1
        exact ⟨_, rfl, h⟩
      · wp_walk using q1
        exact ⟨_, rfl, h⟩
    · wp_walk using q1
      exact ⟨_, rfl, h⟩
theorem enum_begins1 {prog : Program} {w : World} {A : Around} {E : Value → Shared → Prop} {s : Shared} {v : Value} {o : Obj} {H : Heap → Prop} {Q : Value → Shared → Prop} (B : Begins v o H) (h1 : H s.heap)
    (h : ∀ h', IsEnum h' (s.heap.objs.size + 1) s.heap.objs.size 0 .none → h'.get? s.heap.objs.size = some o → h'.objs.size = s.heap.objs.size + 2 →
      (∀ b o, s.heap.get? b = some o → h'.get? b = some o) → Q (.ref (s.heap.objs.size + 1)) { s with heap := h' }) :
    wpAny (model prog w) A (call (.type "enumerate") [v]) Q E s := by
  refine callType_new F.called_enumerate (by decide) (F.typeCall_enumerate_1 _) (F.newCall_enumerate_1 _) (fun obj => F.args_object_init_2 obj _) F.entry_enumerate_new
    (meets_enumerate_new1 B) ⟨h1, ?_⟩
  have hz : (s.heap.push o).objs.size = s.heap.objs.size + 1 := Heap.size_push ..
  show _ ∧ _
  rw [hz]
  have he : IsEnum ((s.heap.push o).push { cls := .type "enumerate", data := .fields #[.none, .bool false, .ref s.heap.objs.size, rawInt 0, .none, .none] }) (s.heap.objs.size + 1) s.heap.objs.size 0 .none := by
    have := Heap.get?_push_size (s.heap.push o) (o := { cls := .type "enumerate", data := .fields #[.none, .bool false, .ref s.heap.objs.size, rawInt 0, .none, .none] }) rfl
    rw [hz] at this; exact this
  refine ⟨⟨_, he, rfl⟩, h _ he (Heap.get?_push_of_some _ (Heap.get?_push_size _ B.free)) (by rw [Heap.size_push, hz]) fun b o x => Heap.get?_push_of_some _ (Heap.get?_push_of_some _ x)⟩
end PySem
namespace L2
open PySem PySem.Spec PyProof.Rows
/-- the tuple at a, each item in a new pair -/
def IteT (K : PySem.W.Frag) (a : Addr) : It :=
  ⟨fun i H => ∃ (xs : List V) (x : V), SqT K H a xs ∧ xs[i]? = some x, fun i H v H' => ∃ T x, v = .ref T ∧ H T = none ∧ H' = upd H T (.tup [.int (i : Nat), x]) ∧ ∀ xs, SqT K H a xs → xs[i]? = some x, fun i H => ∃ xs : List V, SqT K H a xs ∧ xs.length = i⟩
theorem turn_enumT {P : Program} {w : World} {K : PySem.W.Frag} {elts : List Expr} {kk : Nat} {tpos : Pos} (a e it : Addr) :
    Turn P w K (.Tuple elts kk tpos) (IteT K a) [e, it] e (fun i h => (∃ old, IsEnum h e it ((i : Nat) : Int) old) ∧ h.IsTupleIter it a i ∧ e ≠ it ∧ a ≠ it) where
  mem := by simp
  obj := fun i h st b hb => by
    obtain ⟨⟨old, he⟩, ⟨o, ho, hc, hd⟩, _⟩ := st
    have e' : b = e ∨ b = it := by simpa using hb
    rcases e' with z | z
    · rw [z]; exact ⟨_, he, fun v q => nomatch q⟩
    · rw [z]; exact ⟨o, ho, fun v q => by rw [hd] at q; cases q⟩
  keep := fun i h h' st k => let ⟨⟨old, he⟩, hi, hne, hna⟩ := st; ⟨⟨old, k e (by simp) _ he⟩, hi.at fun o q => k it (by simp) o q, hne, hna⟩
  item := by
    intro X hP hw hK hc i pins s σ H E I hf st hg
    subst hP hw hK
    obtain ⟨⟨old, he⟩, hit, hne, hna⟩ := st
    obtain ⟨xs, x, hq, hx⟩ := hg
    obtain ⟨its, rv, p, hz⟩ := I.tuple hq
    obtain ⟨u, hu, ru⟩ := rv.get hx
    have hel : e < s.heap.objs.size := Heap.lt_size he
    have hil : it < s.heap.objs.size := by obtain ⟨_, q, _⟩ := hit; exact Heap.lt_size q
    have hlt : i < its.toArray.size := by
      have := rv.length
      have := (List.getElem?_eq_some_iff.mp hu).1
      simpa using this
    have hea : e ≠ a := by
      rintro rfl
      obtain ⟨o, ho, hcl, _⟩ := p
      rw [he] at ho
      cases ho
      exact absurd (show (Value.type "enumerate") = .type "tuple" from hcl) (by decide)
    have D := Draws.tuple (prog := X.prog) (w := X.w) (A := X.A.in1) (I.ok.hd hc) it a hna its.toArray
    refine wpAny_pyNext_enum_itemD D he ⟨hit, show s.heap.IsTuple a its.toArray from p⟩ hlt hne (by simp [hne, hea]) fun x' h' tk hP ho hSt hT hsz hk => ?_
    have ex : x' = u := by
      have z : its.toArray[i]? = some x' := hP
      rw [show its.toArray[i]? = some u by simpa using hu] at z
      exact (Option.some.inj z).symm
    subst ex
    refine ⟨_, rfl, wpAny_letOwnedTupleGo_enum (s := { s with heap := h', toks := tk + 1 }) ho fun h'' he' sb => ?_⟩
    have hT2 : h''.get? s.heap.objs.size = some { cls := .type "tuple", data := .seq #[.int i tk, x'] } := (sb.2 _ (Nat.ne_of_gt hel)).trans hT
    have new : ObjOk X.prog X.w (upd H s.heap.objs.size (.tup [.int (i : Nat), x])) h'' s.heap.objs.size (.tup [.int (i : Nat), x]) :=
      ⟨by show 2 ≤ sizeLine; decide, [.int i tk, x'], .cons ⟨_, rfl⟩ (.cons ru .nil), ⟨_, hT2, rfl, _, rfl⟩⟩
    have I1 : Inv X pins σ (upd H s.heap.objs.size (.tup [.int (i : Nat), x])) { s with heap := h'', toks := tk + 1 } :=
      I.turnedNew (ch := [e, it]) (fun b ob hb q => (sb.2 b (fun z => hb (by simp [z]))).trans (hk b ob (fun z => hb (by simp [z])) (fun z => hb (by simp [z])) q)) hf (Nat.le_refl _) new
    refine ⟨.ref s.heap.objs.size, _, I1, rfl, ⟨_, x, rfl, I.hok.fresh (Nat.le_refl _), rfl, fun ys hy => by rw [I.tuple_inj hy hq]; exact hx⟩, ⟨⟨x', ?_⟩, hSt.1.at fun o q => (sb.2 it (Ne.symm hne)).trans q, hne, hna⟩, fun b hb => ?_⟩
    · have e1 : ((i + 1 : Nat) : Int) = (i : Int) + 1 := by omega
      rw [e1]; exact he'
    · have hb' : b < s.heap.objs.size := by
        have e' : b = e ∨ b = it := by simpa using hb
        rcases e' with z | z
        · rw [z]; exact hel
        · rw [z]; exact hil
      rw [upd_ne (Nat.ne_of_lt hb')]
      exact (hf b hb).1
  done := by
    intro X hP hw hK hc i pins s σ H E I hf st hg
    subst hP hw hK
    obtain ⟨⟨old, he⟩, hit, hne, hna⟩ := st
    obtain ⟨xs, hq, hx⟩ := hg
    obtain ⟨its, rv, p, hz⟩ := I.tuple hq
    obtain ⟨f0, f1, f2, f3, f4, f5⟩ := hf it (by simp)
    have hl := rv.length
    have D := Draws.tuple (prog := X.prog) (w := X.w) (A := X.A.in1) (I.ok.hd hc) it a hna its.toArray
    have hi : i = its.toArray.size := by simp; omega
    subst hi
    exact wpAny_pyNext_enum_endD D he ⟨hit, show s.heap.IsTuple a its.toArray from p⟩ fun h' eb => ⟨rfl, I.turned (t' := s.toks) (fun b o hb q => eb b o hb q) f0 f1 f3 f4 f5⟩
  self := fun A i s Q E st h => let ⟨⟨_, he⟩, _⟩ := st; wpAny_pyIter_enum he h
def iEnumT (K : PySem.W.Frag) (ta : TA) : TI := fun σ H R => ta σ H fun vs H1 => ∃ a xs, vs = [.ref a] ∧ SqT K H1 a xs ∧ R (IteT K a) H1
theorem pi_enumT {X : Cx} {e : Expr} {ta : TA} {p pos tpos : Pos} {elts : List Expr} {kk : Nat} (hg : Gl X "enumerate") (hm : X.mg "enumerate" = none) (ha : PA X [e] ta) (hs : starEach [e] X.env = [(false, eval e X.env)] := by rfl) :
    PI X (.Tuple elts kk tpos) (.Call (.Name "enumerate" p) [e] [] pos) (iEnumT X.K ta) := by
  refine ⟨fun pins s σ H R I h => ?_⟩
  refine Call_ (ld_blt I hg hm boot_enumerate (PyProof.Rows.callWith_type1 (thn (ha.run pos pins s σ H _ I h) fun us s1 ⟨vs, H1, I1, r1, q1⟩ => ?_) hs rfl))
  obtain ⟨a, xs, ex, hq, q⟩ := q1
  subst ex
  cases r1 with
  | cons r rr =>
    cases rr
    cases r
    obtain ⟨its, rv, p', hz⟩ := I1.tuple hq
    refine enum_begins1 (begins_tuple a its.toArray) (show s1.heap.IsTuple a its.toArray from p') fun h' he hit hsz hk => wpAny_pyIter_enum he ?_
    have I2 : Inv X pins σ H1 { s1 with heap := h' } := I1.kept (t' := s1.toks) hk
    refine ⟨s1.heap.objs.size + 1, [s1.heap.objs.size + 1, s1.heap.objs.size], _, _, H1, rfl, I2, turn_enumT a (s1.heap.objs.size + 1) s1.heap.objs.size, ⟨⟨.none, he⟩, ⟨_, hit, rfl, rfl⟩, Nat.succ_ne_self _, Nat.ne_of_lt p'.lt⟩, fun b hb => ?_, q⟩
    have e' : b = s1.heap.objs.size + 1 ∨ b = s1.heap.objs.size := by simpa using hb
    have hle : s1.heap.objs.size ≤ b := by
      rcases e' with z | z
      · rw [z]; exact Nat.le_add_right _ _
      · rw [z]; exact Nat.le_refl _
    exact I1.fpOk hle (I1.hok.fresh hle)
end L2

/-! comprehensions over enumerate(tuple); dicts read, displayed, made of pairs; lists cleared -/
namespace TQ
open PySem PySem.Spec PyProof.Rows L2
def enumF : Nat → List PV → List PV
  | _, [] => []
  | i, x :: xs => .tup [.int (i : Nat), x] :: enumF (i + 1) xs
theorem enumF_length : ∀ (xs : List PV) (k : Nat), (enumF k xs).length = xs.length
  | [], _ => rfl
  | x :: xs, k => by show (enumF (k + 1) xs).length + 1 = xs.length + 1; rw [enumF_length xs]
theorem enumF_get : ∀ (xs : List PV) (k i : Nat) {x : PV}, xs[i]? = some x → (enumF k xs)[i]? = some (.tup [.int ((k + i : Nat) : Int), x])
  | [], _, _, _, h => by simp at h
  | y :: xs, k, 0, x, h => by simp at h; subst h; rfl
  | y :: xs, k, i + 1, x, h => by
    have := enumF_get xs (k + 1) i (x := x) (by simpa using h)
    show (enumF (k + 1) xs)[i]? = _
    rw [this, show k + 1 + i = k + (i + 1) by omega]
def slEn (env : Sl) (vs : List Nat) (j1 j2 : Nat) : PV → Option Sl
  | .tup [a, b] => some (((wipeQ env vs).set j1 (some a)).set j2 (some b))
  | _ => none
def qLcEn (j1 j2 : Nat) (vs : List Nat) (tl : QT) (tt : QB) (te : QT) : QT := fun env M Q E => tl env M (fun x M1 => ∃ items, x = .tup items ∧ lcQ (enumF 0 items) (slEn env vs j1 j2) tt te M1 Q) E
/-- comprehensions over tuples whose list is written later -/
def qLcTM (j : Nat) (vs : List Nat) (tl : QT) (tt : QB) (te : QT) : QT := fun env M Q E => tl env M (fun x M1 => ∃ items, x = .tup items ∧ lcQM items (fun y => some ((wipeQ env vs).set j (some y))) tt te M1 Q) E
section
variable {X : Cx} {W : WX} {pos : Pos}
theorem lcEn_imp {own : List Nat} {j1 j2 : Nat} {tl : QT} {tt : QB} {te : QT} {σ : L2.St} {H : Hp} {Q : VK} (hj1 : j1 ∈ own) (hj2 : j2 ∈ own) (h : tie X.K W (qLcEn j1 j2 own tl tt te) σ H Q) :
    tLc (iEnumT X.K (tieA X.K W (qCons tl qNil))) (gTup X.K 2 (gCons (gName j1) (gCons (gName j2) gNil))) (tieB X.K W0 tt) (tie X.K W0 te) own σ H Q := by
  obtain ⟨env, M, G, Q0, E0, S, q, L, LE⟩ := h
  refine ⟨env, M, G, fun xs M1 => match xs with
    | [x] => ∃ items, x = .tup items ∧ lcQ (enumF 0 items) (slEn env own j1 j2) tt te M1 Q0
    | _ => False, E0, S, q, fun ys M1 vs H1 G1 e1 w1 r1 q1 => ?_, LE⟩
  dsimp only at q1
  split at q1
  · obtain ⟨v, rfl, rv⟩ := reps1 r1
    obtain ⟨items, rfl, hn, r, hr, q1⟩ := q1
    obtain ⟨p, vs, rfl, h1, rs⟩ := rv
    refine ⟨p, vs, rfl, ext_t w1.sub h1, fun D hD => ?_⟩
    have hM := w1.freeM hD
    have hle := enumF_length items 0
    refine ⟨fun i m H => m = items.length - i ∧ i ≤ items.length ∧ lcP X.K G1 M1 D (enumF 0 items) r i H, ⟨items.length, by omega, Nat.zero_le _, G1, Ext.refl _, w1.put (w1.free hD) (mok_lst Reps.nil)⟩, fun i m H ⟨hm, hi, hp⟩ => ?_⟩
    obtain ⟨G', e', w'⟩ := _root_.id hp
    have hT := ext_t w'.sub (ext_t e' h1)
    by_cases hz : i = items.length
    · subst hz
      exact .inl ⟨⟨vs, hT, rs.length.symm⟩, lc_end (L.mono e1) hM (by rw [hle]; exact hp) q1⟩
    · have hlt : i < items.length := by omega
      have hx := List.getElem?_eq_getElem hlt
      obtain ⟨v, hv, rv⟩ := rs.get hx
      refine .inr ⟨⟨vs, v, hT, hv⟩, lcP X.K G1 M1 D (enumF 0 items) r (i + 1), fun H' h => ⟨m - 1, by omega, by omega, by omega, h⟩, fun z H' hy => ?_⟩
      obtain ⟨T, x0, rfl, hTn, rfl, hy⟩ := hy
      have ez := hy vs hT
      rw [hv] at ez
      cases ez
      have hG := w'.free hTn
      have w2 := w'.newG (o := HO.tup [.int (i : Nat), v]) hTn
      have e2 : Ext G1 (upd G' T (.tup [.int (i : Nat), v])) := e'.trans (Ext.new hG)
      refine ⟨T, _, rfl, SqT.of upd_same, rfl, _, _, rfl, _, _, rfl, rfl, wipe_set2 hj1 hj2, ?_⟩
      have hx2 := enumF_get items 0 i hx
      rw [Nat.zero_add] at hx2
      have S2 : Sim X.K (((wipeQ env own).set j1 (some (.int (i : Nat)))).set j2 (some items[i])) _ (upd G' T (.tup [.int (i : Nat), v])) (((L2.wipe σ own).set j1 (some (.int (i : Nat)))).set j2 (some v)) (upd H T (.tup [.int (i : Nat), v])) :=
        ⟨(((S.env.mono (e1.trans e2)).wipe _).set (show Rep X.K _ (.int (i : Nat)) (.int (i : Nat)) from rfl)).set (Rep.mono (e'.trans (Ext.new hG)) _ _ rv), w2⟩
      refine lc_turnQ (by rw [hle]; rw [hle] at hn; exact hn) hx2 e2 hM S2 (fun M2 hM2 => ?_) (fun H' h => h)
      obtain ⟨env2, ee, q2⟩ := hr _ (List.mem_of_getElem? hx2) M2 hM2
      cases ee
      exact q2
  · exact q1.elim
theorem qe_lcEn {elt a : Expr} {x y : Str} {px py pt p pos' : Pos} {kt} {ifs : List Expr} {scope : Scope} {own : List (Str × Nat)} {j1 j2 : Nat} {tl : QT} {tt : QB} {te : QT} (hc : X.calm = true) (hN : X.N.Nodup) (hm : X.mg "enumerate" = none) (hl : QE X W a tl) (hj1 : j1 ∈ own.map (·.2)) (hj2 : j2 ∈ own.map (·.2))
    (ok : BlkOk X.N X.env.scope scope own) (hg : ∀ (s : Shared) (H : Hp) (C : Addr) (cl : List (Str × Addr)) (fp : List Addr), PG (X.blk s H scope (compEnvC scope cl C X.env) fp) (.Tuple [.Name x px, .Name y py] kt pt) (gTup X.K 2 (gCons (gName j1) (gCons (gName j2) gNil))))
    (ht : ∀ (s : Shared) (H : Hp) (C : Addr) (cl : List (Str × Addr)) (fp : List Addr), QPTs (X.blk s H scope (compEnvC scope cl C X.env) fp) ifs tt)
    (he : ∀ (s : Shared) (H : Hp) (C : Addr) (cl : List (Str × Addr)) (fp : List Addr), QE (X.blk s H scope (compEnvC scope cl C X.env) fp) W0 elt te) (hgr : Gl X "enumerate" := by rfl)
    (hst : starEach [a] X.env = [(false, eval a X.env)] := by rfl) (hfs : ∀ v, foldedSetIterable (.Call (.Name "enumerate" p) [a] [] pos') X.env v = pure v := by intro _; rfl) :
    QE X W (.ListComp elt [{ target := .Tuple [.Name x px, .Name y py] kt pt, iter := .Call (.Name "enumerate" p) [a] [] pos', ifs := ifs, is_async := 0 }] scope pos) (qLcEn j1 j2 (own.map (·.2)) tl tt te) :=
  (pe_lc (tt := tieB X.K W0 tt) (te := tie X.K W0 te) hc hN (pi_enumT hgr hm (qa_cons hl qa_nil hst) hst) ok hg ht he hfs).imp fun σ H Q h => lcEn_imp hj1 hj2 h
theorem qs_lcEn (i : Nat) {z : Str} {pz spos : Pos} {elt a : Expr} {x y : Str} {px py pt p pos' : Pos} {kt} {ifs : List Expr} {scope : Scope} {own : List (Str × Nat)} {j1 j2 : Nat} {tl : QT} {tt : QB} {te : QT} (hc : X.calm = true) (hN : X.N.Nodup) (hm : X.mg "enumerate" = none) (hl : QE X W a tl) (hj1 : j1 ∈ own.map (·.2)) (hj2 : j2 ∈ own.map (·.2))
    (ok : BlkOk X.N X.env.scope scope own) (hg : ∀ (s : Shared) (H : Hp) (C : Addr) (cl : List (Str × Addr)) (fp : List Addr), PG (X.blk s H scope (compEnvC scope cl C X.env) fp) (.Tuple [.Name x px, .Name y py] kt pt) (gTup X.K 2 (gCons (gName j1) (gCons (gName j2) gNil))))
    (ht : ∀ (s : Shared) (H : Hp) (C : Addr) (cl : List (Str × Addr)) (fp : List Addr), QPTs (X.blk s H scope (compEnvC scope cl C X.env) fp) ifs tt)
    (he : ∀ (s : Shared) (H : Hp) (C : Addr) (cl : List (Str × Addr)) (fp : List Addr), QE (X.blk s H scope (compEnvC scope cl C X.env) fp) W0 elt te) (hgr : Gl X "enumerate" := by rfl)
    (hst : starEach [a] X.env = [(false, eval a X.env)] := by rfl) (hfs : ∀ v, foldedSetIterable (.Call (.Name "enumerate" p) [a] [] pos') X.env v = pure v := by intro _; rfl) (hlo : X.env.scope.names.lookup z = some .local := by rfl) (hi : X.N[i]? = some z := by rfl)
    (hsw : swapsWith (.ListComp elt [{ target := .Tuple [.Name x px, .Name y py] kt pt, iter := .Call (.Name "enumerate" p) [a] [] pos', ifs := ifs, is_async := 0 }] scope pos) (some (.Name z pz)) spos.line X.env = pure true := by exact sw_true rfl rfl rfl (by decide +kernel)) :
    QPS X W (.Assign [.Name z pz] (.ListComp elt [{ target := .Tuple [.Name x px, .Name y py] kt pt, iter := .Call (.Name "enumerate" p) [a] [] pos', ifs := ifs, is_async := 0 }] scope pos) spos) (sAsg (qLcEn j1 j2 (own.map (·.2)) tl tt te) (gNm i)) :=
  (ps_setLc (tt := tieB X.K W0 tt) (te := tie X.K W0 te) hc hN hi hlo hsw (pi_enumT hgr hm (qa_cons hl qa_nil hst) hst) ok hg ht he hfs).imp fun D σ H h => lcEn_imp hj1 hj2 (tieNm (tieAsg h) fun _ _ _ _ k z => tie_mono k z)
theorem lcTM_imp {own : List Nat} {j : Nat} {tl : QT} {tt : QB} {te : QT} {σ : L2.St} {H : Hp} {Q : VK} (hj : j ∈ own) (h : tie X.K W (qLcTM j own tl tt te) σ H Q) : tLc (iTup X.K (tie X.K W tl)) (gName j) (tieB X.K W0 tt) (tie X.K W0 te) own σ H Q := by
  obtain ⟨env, M, G, Q0, E0, S, q, L, LE⟩ := h
  refine ⟨env, M, G, _, E0, S, q, fun y M1 v H1 G1 e1 w1 r1 q1 => ?_, LE⟩
  obtain ⟨items, rfl, hn, r, hr, q1⟩ := q1
  obtain ⟨p, vs, rfl, h1, rs⟩ := r1
  refine ⟨p, rfl, ⟨_, ext_t w1.sub h1⟩, fun D hD => ?_⟩
  have hM := w1.freeM hD
  refine lc_tup (K := X.K) (a := p) (xs := vs) (lcP X.K G1 M1 D items r) ⟨G1, Ext.refl _, w1.put (w1.free hD) (mok_lst Reps.nil)⟩ (fun i H _ ⟨G', e', w'⟩ => ext_t w'.sub (ext_t e' h1)) (fun i v H hv ⟨G', e', w'⟩ => ?_)
    (fun H hp => lc_endM (L.mono e1) (by rw [rs.length]; exact hp) (q1 D hM))
  obtain ⟨z, hx, rz⟩ := rs.getV hv
  refine ⟨wipe_set hj, ?_⟩
  have S2 : Sim X.K ((wipeQ env own).set j (some z)) _ G' ((L2.wipe σ own).set j (some v)) H := ⟨((S.env.mono (e1.trans e')).wipe _).set (Rep.mono e' _ _ rz), w'⟩
  refine lc_turnQ hn hx e' hM S2 (fun M2 hM2 => ?_) (fun H' h => h)
  obtain ⟨env2, ee, q2⟩ := hr _ (List.mem_of_getElem? hx) M2 hM2
  cases ee
  exact q2
theorem qe_lcTM {elt iter : Expr} {x : Str} {px : Pos} {ifs : List Expr} {scope : Scope} {own : List (Str × Nat)} {j : Nat} {tl : QT} {tt : QB} {te : QT} (hc : X.calm = true) (hN : X.N.Nodup) (hl : QE X W iter tl) (hj : j ∈ own.map (·.2))
    (ok : BlkOk X.N X.env.scope scope own) (hg : ∀ (s : Shared) (H : Hp) (C : Addr) (cl : List (Str × Addr)) (fp : List Addr), PG (X.blk s H scope (compEnvC scope cl C X.env) fp) (.Name x px) (gName j))
    (ht : ∀ (s : Shared) (H : Hp) (C : Addr) (cl : List (Str × Addr)) (fp : List Addr), QPTs (X.blk s H scope (compEnvC scope cl C X.env) fp) ifs tt)
    (he : ∀ (s : Shared) (H : Hp) (C : Addr) (cl : List (Str × Addr)) (fp : List Addr), QE (X.blk s H scope (compEnvC scope cl C X.env) fp) W0 elt te) (hfs : ∀ v, foldedSetIterable iter X.env v = pure v := by intro _; rfl) :
    QE X W (.ListComp elt [{ target := .Name x px, iter := iter, ifs := ifs, is_async := 0 }] scope pos) (qLcTM j (own.map (·.2)) tl tt te) :=
  (pe_lc (tt := tieB X.K W0 tt) (te := tie X.K W0 te) hc hN (pi_tup hl) ok hg ht he hfs).imp fun σ H Q h => lcTM_imp hj h
/-! ### d[k] -/
def dgetP (x k : PV) (M : Mem) (Q : PK) : Prop := ∃ a ks xs kk v, x = .ref a ∧ M a = some (.dic ks xs) ∧ keyP k = some kk ∧ getX kk ks xs = some v ∧ Q v M
def qDGet (td ty : QT) : QT := fun env M Q E => td env M (fun x M1 => ty env M1 (fun k M2 => dgetP x k M2 Q) E) E
theorem qe_dget {o i : Expr} {td ty : QT} (hu : X.A.units + 1 < cLine) (ho : QE X W o td) (hi : QE X W i ty) (hs : NoSl i := by exact fun _ _ => rfl) : QE X W (.Subscript o i pos) (qDGet td ty) := (pe_dget hu ho hi hs).imp fun σ H Q ⟨env, M, G, Q0, E0, S, q, L, LE⟩ => by
  refine ⟨env, M, G, _, E0, S, q, fun x M1 u H1 G1 e1 w1 r1 q1 => ?_, LE⟩
  refine ⟨env, M1, G1, _, E0, S.to e1 w1, q1, fun k M2 kv H2 G2 e2 w2 r2 q2 => ?_, LE.mono e1⟩
  obtain ⟨a, ks, xs, kk, v, rfl, hm, hk, hg, q2⟩ := q2
  cases r1
  obtain ⟨g, vs, h1, h2, h3⟩ := w2.mem a _ hm
  have ek := keyP_V hk r2
  subst ek
  obtain ⟨u, hu', ru⟩ := getX_rep hg h3
  refine ⟨a, u, rfl, ?_, give (L.mono (e1.trans e2)) w2 ru q2⟩
  have := DGet.k (k := kk) h1
  rw [valV_zip, hu'] at this
  exact this
/-! ### dicts of pairs -/
def mgP {κ α : Type} [DecidableEq κ] : List κ → List α → List (κ × α) → List κ × List α
  | ns, us, [] => (ns, us)
  | ns, us, (k, v) :: r => mgP (putN k ns) (putX k v ns us) r
theorem mgP_zip : ∀ (kvs : List (Key × V)) (ns : List Key) (us : List V), ns.Nodup → ns.length = us.length → mergeK (ns.zip us) kvs = (mgP ns us kvs).1.zip (mgP ns us kvs).2 ∧ (mgP ns us kvs).1.length = (mgP ns us kvs).2.length
  | [], ns, us, _, h => ⟨rfl, h⟩
  | (k, v) :: r, ns, us, nd, h => by
    have e : mergeK (ns.zip us) ((k, v) :: r) = mergeK (putK (ns.zip us) k v) r := rfl
    rw [e, putK_zip nd h]
    exact mgP_zip r _ _ (nodup_putN nd) (putX_length k v ns us h).symm
theorem mgP_reps {K : PySem.W.Frag} {G : Hp} : ∀ (ks : List Key) (xs : List PV) (vs : List V) (ns : List Key) (ys : List PV) (us : List V), ks.length = xs.length → Reps K G xs vs → ns.length = ys.length → Reps K G ys us → (mgP ns ys (ks.zip xs)).1 = (mgP ns us (ks.zip vs)).1 ∧ Reps K G (mgP ns ys (ks.zip xs)).2 (mgP ns us (ks.zip vs)).2
  | [], _, _, ns, ys, us, _, _, _, r => ⟨rfl, r⟩
  | k :: ks, [], _, _, _, _, h, _, _, _ => by cases h
  | k :: ks, x :: xs, _, ns, ys, us, h, r, h2, r2 => by
    obtain ⟨v, ws, rfl, r1, r3⟩ := r
    exact mgP_reps ks xs ws (putN k ns) _ _ (by simpa using h) r3 (by rw [putX_length k x ns ys h2]) (putX_reps r1 h2 r2)
theorem putX_new {κ α : Type} [DecidableEq κ] {k : κ} {v : α} : ∀ {ns : List κ} {us : List α}, ns.length = us.length → k ∉ ns → putX k v ns us = us ++ [v]
  | [], [], _, _ => rfl
  | n :: ns, u :: us, h, hk => by
    have h1 : ¬ n = k := fun z => hk (by rw [z]; exact List.mem_cons_self)
    show (if n = k then v :: us else u :: putX k v ns us) = _
    rw [if_neg h1, putX_new (by simpa using h) (fun z => hk (List.mem_cons_of_mem _ z))]
    rfl
theorem mgP_new {κ α : Type} [DecidableEq κ] : ∀ (ks : List κ) (vs : List α) (ns : List κ) (us : List α), ks.length = vs.length → ns.length = us.length → (ns ++ ks).Nodup → mgP ns us (ks.zip vs) = (ns ++ ks, us ++ vs)
  | [], [], ns, us, _, _, _ => by simp [mgP]
  | k :: ks, v :: vs, ns, us, h, h2, nd => by
    have hk : k ∉ ns := fun z => by
      rw [List.nodup_append] at nd
      exact nd.2.2 k z k List.mem_cons_self rfl
    rw [List.zip_cons_cons]
    show mgP (putN k ns) (putX k v ns us) (ks.zip vs) = _
    rw [putX_new h2 hk, show putN k ns = ns ++ [k] from if_neg hk, mgP_new ks vs _ _ (by simpa using h) (by simp [h2]) (by rw [List.append_assoc]; exact nd), List.append_assoc, List.append_assoc]
    rfl
def keyV : Key → PV
  | .inl i => .int i
  | .inr s => .str s
theorem keyV_rep {K : PySem.W.Frag} {G : Hp} {k : Key} {v : V} (r : Rep K G (keyV k) v) : v = kV k := by cases k <;> exact r
def pairP (kv : Key × PV) : PV := .tup [keyV kv.1, kv.2]
def cDictP : FC := fun xs M Q => match xs with
  | [x] => ∃ kvs : List (Key × PV), sqA M x = some (kvs.map pairP) ∧ ∀ p, M p = none → Q (.ref p) (mset M p (.dic (mgP [] [] kvs).1 (mgP [] [] kvs).2))
  | _ => False
theorem pairs_reps {K : PySem.W.Frag} {G H : Hp} (e : Ext G H) : ∀ {kvs : List (Key × PV)} {ws : List V}, Reps K G (kvs.map pairP) ws → ∃ (ps : List Addr) (vs : List V), ws = ps.map V.ref ∧ Reps K G (kvs.map (·.2)) vs ∧ Paired (fun p kv => SqT K H p [kV kv.1, kv.2]) ps ((kvs.map (·.1)).zip vs)
  | [], _, r => by cases r; exact ⟨[], [], rfl, Reps.nil, .nil⟩
  | (k, x) :: kvs, _, r => by
    obtain ⟨v, ws, rfl, r1, r2⟩ := r
    obtain ⟨ps, vs, rfl, r3, pp⟩ := pairs_reps e r2
    obtain ⟨a, us, rfl, h1, r4⟩ := r1
    obtain ⟨v1, v2, rfl, q1, q2⟩ := reps2 r4
    have := keyV_rep q1
    subst this
    exact ⟨a :: ps, v2 :: vs, rfl, Reps.cons q2 r3, .cons (ext_t e h1) pp⟩
theorem zip_fst {α β : Type} : ∀ (kvs : List (α × β)), (kvs.map (·.1)).zip (kvs.map (·.2)) = kvs
  | [] => rfl
  | (a, b) :: r => by rw [List.map_cons, List.map_cons, List.zip_cons_cons, zip_fst r]
theorem cq_dict (hc : X.calm = true) : CallQ X (.type "dict") cDictP := by
  intro pins s σ H vs us Q I r ⟨xs, M, G, Q0, rx, w, q, L⟩
  unfold cDictP at q
  split at q
  · rename_i x
    obtain ⟨v, rfl, r1⟩ := reps1 rx
    obtain ⟨kvs, hs, q⟩ := q
    obtain ⟨p, ws, rfl, h1, r2⟩ := sqA_H hs r1 w
    obtain ⟨ps, vs2, rfl, r3, pp⟩ := pairs_reps w.sub r2
    refine call_dictP hc pins s σ H _ us Q I r ⟨p, ps, _, rfl, h1, pp, fun d hd => ?_⟩
    have hl : (kvs.map (·.1)).length = (kvs.map (·.2)).length := by simp
    have hz := mgP_zip ((kvs.map (·.1)).zip vs2) [] [] List.nodup_nil rfl
    have hr := mgP_reps (K := X.K) (G := G) (kvs.map (·.1)) (kvs.map (·.2)) vs2 [] [] [] hl r3 rfl Reps.nil
    rw [zip_fst] at hr
    rw [show mergeK [] ((kvs.map (·.1)).zip vs2) = mergeK (([] : List Key).zip ([] : List V)) ((kvs.map (·.1)).zip vs2) from rfl, hz.1]
    exact give_ref (m := .dic _ _) L w (w.free hd) ⟨_, by rw [upd_same, hr.1], by rw [hr.1]; exact hz.2, hr.2⟩ (q d (w.freeM hd))
  · exact q.elim
/-! ### {k: v, ..} -/
theorem zip_keys : ∀ (kts : List (Str × QT)) (vs : List V), (kts.map fun kt => V.str kt.1).zip vs = ((kts.map fun kt => (Sum.inr kt.1 : Key)).zip vs).map fun kv => (kV kv.1, kv.2)
  | [], _ => rfl
  | _ :: _, [] => rfl
  | (n, t) :: r, v :: vs => by
    rw [List.map_cons, List.map_cons, List.zip_cons_cons, List.zip_cons_cons, List.map_cons, zip_keys r vs]
    rfl
def qPs : List (Str × QT) → QA
  | [] => qNil
  | (_, t) :: r => qCons t (qPs r)
def qDsp (kts : List (Str × QT)) : QT := fun env M Q E => ∀ p, M p = none → qPs kts env (mset M p (.dic [] [])) (fun xs M2 => M2 p = some (.dic [] []) ∧ Q (.ref p) (mset M2 p (.dic (kts.map fun kt => Sum.inr kt.1) xs))) E
theorem tPairs_q {K : PySem.W.Frag} {W : WX} {E : XK} : ∀ (kts : List (Str × QT)) {env : Sl} {M : Mem} {G : Hp} {Q0 : List PV → Mem → Prop} {E0 : EK} {σ : L2.St} {H : Hp} {Qh : List (V × V) → Hp → Prop}, Sim K env M G σ H → qPs kts env M Q0 E0 → LiftE K G E0 (WE W σ) →
    (∀ xs M' vs H' G', Ext G G' → Wf K M' H' G' → Reps K G' xs vs → xs.length = kts.length → Q0 xs M' → Qh ((kts.map fun kt => V.str kt.1).zip vs) H') → tPairs (kts.map fun kt => (tC (.str kt.1), tie K W kt.2)) σ H Qh
  | [], _, _, G, _, _, _, _, _, S, q, _, k => k [] _ [] _ G (Ext.refl G) S.wf Reps.nil rfl q
  | (n, t) :: r, env, M, G, Q0, E0, σ, H, Qh, S, q, LE, k => by
    refine ⟨env, M, G, _, E0, S, q, fun x M1 v H1 G1 e1 w1 r1 q1 => ?_, LE⟩
    refine tPairs_q (E := E) r (S.to e1 w1) q1 (LE.mono e1) fun xs M' vs H' G' e' w' r' hl q' => ?_
    exact k (x :: xs) M' (v :: vs) H' G' (e1.trans e') w' (Reps.cons (Rep.mono e' _ _ r1) r') (by simp [hl]) q'
theorem qe_dsp {keys : List (Option Expr)} {values : List Expr} {kts : List (Str × QT)} (h : PPs X pos keys values (kts.map fun kt => (tC (.str kt.1), tie X.K W kt.2))) (nd : (kts.map (·.1)).Nodup) (hall : keys.all (·.isSome) = true) (hl : keys.length = values.length) (h0 : keys ≠ []) (h15 : keys.length ≤ 15) (h16 : kts.length ≤ 15) :
    QE X W (.Dict keys values pos) (qDsp kts) := (pe_disp h hall hl h0 h15).imp fun σ H Q ⟨env, M, G, Q0, E0, S, q, L, LE⟩ => fun p hp => by
  have hG := S.wf.free hp
  have w1 := S.wf.put (p := p) (o := .dK []) (m := .dic [] []) hG ⟨[], upd_same, rfl, Reps.nil⟩
  refine tPairs_q (E := fun _ _ _ => True) kts ⟨S.env, w1⟩ (q p (S.wf.freeM hp)) LE fun xs M' vs H' G' e' w' r' hl' q' => ?_
  obtain ⟨h1, q'⟩ := q'
  obtain ⟨g, us, h2, h3, h4⟩ := w'.mem p _ h1
  cases h4
  refine ⟨h2, (kts.map fun kt => (Sum.inr kt.1 : Key)).zip vs, ?_, ?_, ?_⟩
  · exact zip_keys kts vs
  · rw [List.length_zip, List.length_map]; omega
  · have nd2 : (kts.map fun kt => (Sum.inr kt.1 : Key)).Nodup := by
      rw [List.Nodup, List.pairwise_map] at nd ⊢
      exact nd.imp fun hn z => hn (Sum.inr.inj z)
    have hlv : (kts.map fun kt => (Sum.inr kt.1 : Key)).length = vs.length := by rw [List.length_map, ← r'.length, hl']
    have hz := mgP_zip ((kts.map fun kt => (Sum.inr kt.1 : Key)).zip vs) [] [] List.nodup_nil rfl
    rw [mgP_new _ _ [] [] hlv rfl (by rw [List.nil_append]; exact nd2)] at hz
    rw [show mergeK [] ((kts.map fun kt => (Sum.inr kt.1 : Key)).zip vs) = mergeK (([] : List Key).zip ([] : List V)) ((kts.map fun kt => (Sum.inr kt.1 : Key)).zip vs) from rfl, hz.1]
    exact L (.ref p) _ _ _ G' e' (w'.put (m := .dic _ xs) g ⟨vs, upd_same, hlv, r'⟩) rfl q'
end
end TQ
namespace TQ
open PySem PySem.Spec PyProof.Rows L2
section
variable {X : Cx} {W : WX} {pos : Pos}
/-! ### lists and dicts cleared; lists backwards; their sum, to be written -/
def qClr (to : QT) : QT := fun env M Q E => to env M (fun x M1 => ∃ a ys, x = .ref a ∧ M1 a = some (.lst ys) ∧ Q .non (mset M1 a (.lst []))) E
theorem qe_clr {o : Expr} {to : QT} {apos cpos : Pos} (ho : QE X W o to) (hb : attributeBase o "clear" X.env (eval o X.env) = eval o X.env := by rfl) (hline : (apos.endLine == cpos.line) = true := by rfl) : QE X W (.Call (.Attribute o "clear" apos) [] [] cpos) (qClr to) :=
  (pe_bm0 PySem.F.plainAttrs_list PySem.F.slot_list_clear PySem.F.type_list_clear mt_clear ho hb hline).imp fun σ H Q ⟨env, M, G, Q0, E0, S, q, L, LE⟩ => by
    refine ⟨env, M, G, _, E0, S, q, fun x M1 v H1 G1 e1 w1 r1 q1 => ?_, LE⟩
    obtain ⟨a, ys, rfl, hm, q1⟩ := q1
    cases r1
    obtain ⟨g, vs, h1, _⟩ := w1.mem a _ hm
    exact ⟨.inl ⟨rfl, _, SqL.of h1⟩, a, vs, rfl, rfl, h1, L .non _ .non _ G1 e1 (w1.put g (mok_lst Reps.nil)) rfl q1⟩
def qDClr (to : QT) : QT := fun env M Q E => to env M (fun x M1 => ∃ a ks ys, x = .ref a ∧ M1 a = some (.dic ks ys) ∧ Q .non (mset M1 a (.dic [] []))) E
theorem qe_dclr {o : Expr} {to : QT} {apos cpos : Pos} (ho : QE X W o to) (hb : attributeBase o "clear" X.env (eval o X.env) = eval o X.env := by rfl) (hline : (apos.endLine == cpos.line) = true := by rfl) : QE X W (.Call (.Attribute o "clear" apos) [] [] cpos) (qDClr to) :=
  (pe_dclear ho hb hline).imp fun σ H Q ⟨env, M, G, Q0, E0, S, q, L, LE⟩ => by
    refine ⟨env, M, G, _, E0, S, q, fun x M1 v H1 G1 e1 w1 r1 q1 => ?_, LE⟩
    obtain ⟨a, ks, ys, rfl, hm, q1⟩ := q1
    cases r1
    obtain ⟨g, vs, h1, _⟩ := w1.mem a _ hm
    exact ⟨.inr (.inr (.inl ⟨rfl, .inl ⟨_, h1⟩⟩)), a, _, rfl, rfl, h1, L .non _ .non _ G1 e1 (w1.put (m := .dic [] []) g ⟨[], upd_same, rfl, Reps.nil⟩) rfl q1⟩
def revP (x : PV) (M : Mem) (Q : PK) : Prop := ∃ xs, sqA M x = some xs ∧ Q (.lst xs.reverse) M
def qRev (t : QT) : QT := fun env M Q E => t env M (fun x M1 => revP x M1 Q) E
theorem reps_rev {K : PySem.W.Frag} {G : Hp} : ∀ {xs : List PV} {vs : List V}, Reps K G xs vs → Reps K G xs.reverse vs.reverse
  | [], _, r => by cases r; exact Reps.nil
  | x :: xs, _, r => by
    obtain ⟨v, ws, rfl, r1, r2⟩ := r
    rw [List.reverse_cons, List.reverse_cons]
    exact (reps_rev r2).append (Reps.one r1)
theorem qe_rev {e : Expr} {t : QT} {k} {p1 p2 p3 : Pos} (he : QE X W e t) : QE X W (.Subscript e (.Slice none none (some (.UnaryOp .USub (.Constant (.int 1) k p1) p2)) p3) pos) (qRev t) := (pe_revL he).imp fun σ H Q ⟨env, M, G, Q0, E0, S, q, L, LE⟩ => by
  refine ⟨env, M, G, _, E0, S, q, fun x M1 v H1 G1 e1 w1 r1 q1 => ?_, LE⟩
  obtain ⟨xs, hs, q1⟩ := q1
  obtain ⟨p, vs, rfl, h1, rs⟩ := sqA_H hs r1 w1
  exact ⟨p, vs, rfl, h1, fun d hd => give_lst (L.mono e1) w1 hd (reps_rev rs) q1⟩
def bAddM : F2 := fun x y M Q => ∃ xs ys, sq M x = some xs ∧ sq M y = some ys ∧ xs.length + ys.length ≤ sizeLine ∧ ∀ p, M p = none → Q (.ref p) (mset M p (.lst (xs ++ ys)))
theorem oq_addM : OpQ X (binaryOp .Add) bAddM := by
  intro pins s σ H a b v u Q I ra rb ⟨x, y, M, G, Q0, rx, ry, w, ⟨xs, ys, hx, hy, hz, q⟩, L⟩
  obtain ⟨p1, vs, e1, h1, r1⟩ := sq_H hx rx w
  obtain ⟨p2, ws, e2, h2, r2⟩ := sq_H hy ry w
  exact op_cat pins s σ H a b v u Q I ra rb ⟨p1, p2, vs, ws, e1, e2, h1, h2, by rw [← r1.length, ← r2.length]; exact hz, fun p hp => give_ref (m := .lst _) L w (w.free hp) (mok_lst (r1.append r2)) (q p (w.freeM hp))⟩
def bShr : F2 := fun x y M Q => match x, y with
  | .int i, .int j => 0 ≤ j ∧ Q (.int (i / 2 ^ j.toNat)) M
  | _, _ => False
theorem oq_shr : OpQ X (binaryOp .RShift) bShr := opq_int op_shr (e' := fun i j => .int (i / 2 ^ j.toNat)) (fun _ _ _ _ => rfl) fun x y M Q q => by
  cases x <;> cases y <;> first | exact q.elim | exact ⟨_, _, rfl, rfl, q⟩
/-! ### range(a, b, c) -/
def sForR3 (t : QA) (g : QTG) (b : QS) : QS := fun D env M => t env M (fun xs M1 => ∃ lo hi c n, xs = [.int lo, .int hi, .int c] ∧ RgC lo hi c n ∧ forI n (fun i x => x = .int (lo + i * c)) (fun _ => True) g b D env M1) (exE D env)
theorem qs_forR3 {tg a c d : Expr} {body : List Stmt} {t : QA} {g : QTG} {b : QS} {p pos' : Pos} (po : PassesOwn (model X.prog X.w) X.A X.env X.xe) (hc : X.calm = true) (hm : X.mg "range" = none) (ha : QPA X W [a, c, d] t) (hgt : QPG X tg g) (hb : QPSs X W body b) (hg : Gl X "range" := by rfl)
    (hst : starEach [a, c, d] X.env = (false, eval a X.env) :: starEach [c, d] X.env := by rfl) (hpl : (backTo pos' (starEach [c, d] X.env)).any (·.1) = false := by rfl) (hfs : ∀ x, foldedSetIterable (.Call (.Name "range" p) [a, c, d] [] pos') X.env x = pure x := by intro _; rfl) :
    QPS X W (.For tg (.Call (.Name "range" p) [a, c, d] [] pos') body [] pos) (sForR3 t g b) :=
  (ps_for po hc (pi_range3 hg hm ha hst hpl) hgt hb hfs).imp fun D σ H ⟨env, M, G, D0, S, q, L⟩ => by
    refine ⟨env, M, G, _, _, S, q, fun xs M1 vs H1 G1 e1 w1 r1 q1 => ?_, liftX_E S.env L.ex⟩
    obtain ⟨lo, hi, st, n, rfl, hR, I, i0, _, hs, hd⟩ := q1
    obtain ⟨v, _, rfl, rv, u, _, rfl, ru, z, _, rfl, rz, rfl⟩ := r1
    cases rv; cases ru; cases rz
    refine ⟨lo, hi, st, n, rfl, hR, for_rangeC (lo := lo) (c := st) (n := n) (PvQ X.K G I) ⟨env, M1, G1, e1, S.to e1 w1, i0⟩ (fun i σ H hi' ⟨env, M, G2, e2, S2, q2⟩ => ?_) (fun σ H ⟨env, M, G2, e2, S2, q2⟩ => L.nx env M σ H G2 e2 S2 (hd env M q2))⟩
    exact turnQ L e2 S2 (x := .int (lo + i * st)) rfl (hs i _ env M hi' rfl q2)
end
end TQ
namespace TN
open PySem PySem.Spec PyProof.Rows L2 TQ TM
section
variable {K : PySem.W.Frag} {env : Sl} {M : Mem} {Q : PK} {E : EK} {D : QEnds} {x y : PV} {xs : List PV} {i j : Nat} {a : Addr}
def lcEn (x : PV) (vs : List Nat) (i j : Nat) (tt : QB) (te : QT) (env : Sl) (M : Mem) [Q : Box PK] : Prop := ∃ items, x = .tup items ∧ lcQ (enumF 0 items) (slEn env vs i j) tt te M Q.v
theorem e_lcEn {vs : List Nat} {tl : QT} {tt : QB} {te : QT} : qLcEn i j vs tl tt te env M Q E = tl env M (fun x M1 => @lcEn x vs i j tt te env M1 ⟨Q⟩) E := rfl
theorem lcEn_of {vs : List Nat} {tt : QB} {te : QT} {Q : Box PK} (r : PV → Option PV) (hn : xs.length ≤ 100000) (h : ∀ k x, xs[k]? = some x → ∀ M2, MExt M M2 → lcEl tt te (((wipeQ env vs).set i (some (.int (k : Nat)))).set j (some x)) M2 (r (.tup [.int (k : Nat), x]))) (q : Q.v (.lst ((enumF 0 xs).filterMap r)) M) : @lcEn (.tup xs) vs i j tt te env M Q := by
  refine ⟨xs, rfl, by rw [enumF_length]; exact hn, r, fun z hz M2 hM => ?_, q⟩
  obtain ⟨k, hk, rfl⟩ := List.getElem_of_mem hz
  rw [enumF_length] at hk
  have h1 := List.getElem?_eq_getElem hk
  have h2 := enumF_get xs 0 k h1
  rw [Nat.zero_add] at h2
  have h3 := (List.getElem?_eq_some_iff.mp h2).2
  rw [h3]
  exact ⟨_, rfl, h k _ h1 M2 hM⟩
def lcTM (x : PV) (vs : List Nat) (j : Nat) (tt : QB) (te : QT) (env : Sl) (M : Mem) [Q : Box PK] : Prop := ∃ items, x = .tup items ∧ lcQM items (fun y => some ((wipeQ env vs).set j (some y))) tt te M Q.v
theorem e_lcTM {vs : List Nat} {tl : QT} {tt : QB} {te : QT} : qLcTM j vs tl tt te env M Q E = tl env M (fun x M1 => @lcTM x vs j tt te env M1 ⟨Q⟩) E := rfl
theorem lcTM_of {vs : List Nat} {tt : QB} {te : QT} {Q : Box PK} (r : PV → Option PV) (hn : xs.length ≤ 100000) (h : ∀ x ∈ xs, ∀ M2, MExt M M2 → lcEl tt te ((wipeQ env vs).set j (some x)) M2 (r x)) (q : ∀ p, M p = none → Q.v (.ref p) (mset M p (.lst (xs.filterMap r)))) : @lcTM (.tup xs) vs j tt te env M Q :=
  ⟨xs, rfl, hn, r, fun x hx M2 hM => ⟨_, rfl, h x hx M2 hM⟩, q⟩
def dgetB (x k : PV) (M : Mem) [Q : Box PK] : Prop := dgetP x k M Q.v
theorem e_qDGet {td ty : QT} : qDGet td ty env M Q E = td env M (fun x M1 => ty env M1 (fun k M2 => @dgetB x k M2 ⟨Q⟩) E) E := rfl
theorem dget_of {k v : PV} {kk : Key} {ks : List Key} {vs : List PV} {Q : Box PK} (h : M a = some (.dic ks vs)) (hk : keyP k = some kk) (hg : getX kk ks vs = some v) : @dgetB (.ref a) k M Q = Q.v v M := propext
  ⟨fun ⟨_, _, _, _, _, e, h1, h2, h3, q⟩ => by cases e; rw [h] at h1; cases h1; rw [hk] at h2; cases h2; rw [hg] at h3; cases h3; exact q, fun q => ⟨_, _, _, _, _, rfl, h, hk, hg, q⟩⟩
def dictB (xs : List PV) (M : Mem) [Q : Box PK] : Prop := cDictP xs M Q.v
theorem e_cDictP : cDictP xs M Q = @dictB xs M ⟨Q⟩ := rfl
theorem dict_of {Q : Box PK} (kvs : List (Key × PV)) (h : sqA M x = some (kvs.map pairP)) (q : ∀ p, M p = none → Q.v (.ref p) (mset M p (.dic (mgP [] [] kvs).1 (mgP [] [] kvs).2))) : @dictB [x] M Q := ⟨kvs, h, q⟩
def dspB (kts : List (Str × QT)) (env : Sl) (M : Mem) [Q : Box PK] [E : Box EK] : Prop := ∀ p, M p = none → qPs kts env (mset M p (.dic [] [])) (fun xs M2 => M2 p = some (.dic [] []) ∧ Q.v (.ref p) (mset M2 p (.dic (kts.map fun kt => Sum.inr kt.1) xs))) E.v
theorem e_qDsp {kts : List (Str × QT)} : qDsp kts env M Q E = @dspB kts env M ⟨Q⟩ ⟨E⟩ := rfl
theorem dspB_of {kts : List (Str × QT)} {Q : Box PK} {E : Box EK} (h : ∀ p, M p = none → qPs kts env (mset M p (.dic [] [])) (fun xs M2 => M2 p = some (.dic [] []) ∧ Q.v (.ref p) (mset M2 p (.dic (kts.map fun kt => Sum.inr kt.1) xs))) E.v) : @dspB kts env M Q E := h
theorem e_qPs_n : qPs [] env M = qNil env M := rfl
theorem e_qPs_c {n : Str} {t : QT} {r : List (Str × QT)} {Q : List PV → Mem → Prop} : qPs ((n, t) :: r) env M Q E = t env M (fun x M1 => qPs r env M1 (fun xs M2 => Q (x :: xs) M2) E) E := rfl
theorem e_qPs_0 {Q : List PV → Mem → Prop} : qPs [] env M Q E = Q [] M := rfl
def clrB (x : PV) (M : Mem) [Q : Box PK] : Prop := ∃ a ys, x = .ref a ∧ M a = some (.lst ys) ∧ Q.v .non (mset M a (.lst []))
theorem e_qClr {to : QT} : qClr to env M Q E = to env M (fun x M1 => @clrB x M1 ⟨Q⟩) E := rfl
theorem clr_of {Q : Box PK} (h : M a = some (.lst xs)) (q : Q.v .non (mset M a (.lst []))) : @clrB (.ref a) M Q := ⟨a, xs, rfl, h, q⟩
def dclrB (x : PV) (M : Mem) [Q : Box PK] : Prop := ∃ a ks ys, x = .ref a ∧ M a = some (.dic ks ys) ∧ Q.v .non (mset M a (.dic [] []))
theorem e_qDClr {to : QT} : qDClr to env M Q E = to env M (fun x M1 => @dclrB x M1 ⟨Q⟩) E := rfl
theorem dclr_of {ks : List Key} {Q : Box PK} (h : M a = some (.dic ks xs)) (q : Q.v .non (mset M a (.dic [] []))) : @dclrB (.ref a) M Q := ⟨a, ks, xs, rfl, h, q⟩
def revB (x : PV) (M : Mem) [Q : Box PK] : Prop := revP x M Q.v
theorem e_qRev {t : QT} : qRev t env M Q E = t env M (fun x M1 => @revB x M1 ⟨Q⟩) E := rfl
theorem rev_lst {Q : Box PK} : @revB (.lst xs) M Q = Q.v (.lst xs.reverse) M := propext ⟨fun ⟨_, h, q⟩ => by cases h; exact q, fun q => ⟨_, rfl, q⟩⟩
def addMB (x y : PV) (M : Mem) [Q : Box PK] : Prop := bAddM x y M Q.v
theorem e_bAddM : bAddM x y M Q = @addMB x y M ⟨Q⟩ := rfl
theorem addM_of {ys : List PV} {Q : Box PK} (hx : sq M x = some xs) (hy : sq M y = some ys) (hl : xs.length + ys.length ≤ sizeLine) (q : ∀ p, M p = none → Q.v (.ref p) (mset M p (.lst (xs ++ ys)))) : @addMB x y M Q := ⟨xs, ys, hx, hy, hl, q⟩
theorem e_bShr {i j : Int} : bShr (.int i) (.int j) M Q = (0 ≤ j ∧ Q (.int (i / 2 ^ j.toNat)) M) := rfl
def rng3P (lo hi c : Int) (g : QTG) (b : QS) (D : QEnds) (env : Sl) (M : Mem) : Prop := ∃ n, RgC lo hi c n ∧ forI n (fun i x => x = .int (lo + i * c)) (fun _ => True) g b D env M
def isR3 (xs : List PV) (A : Int → Int → Int → Prop) : Prop := ∃ lo hi c, xs = [.int lo, .int hi, .int c] ∧ A lo hi c
theorem isR3_eq {i j k : Int} {A : Int → Int → Int → Prop} : isR3 [.int i, .int j, .int k] A = A i j k := propext ⟨fun ⟨_, _, _, h, q⟩ => by cases h; exact q, fun q => ⟨_, _, _, rfl, q⟩⟩
theorem e_sForR3 {t : QA} {g : QTG} {b : QS} : sForR3 t g b D env M = t env M (fun xs M1 => isR3 xs fun lo hi c => rng3P lo hi c g b D env M1) (exE D env) := by
  unfold sForR3
  congr 1
  funext xs M1
  exact propext ⟨fun ⟨lo, hi, c, n, e, h, q⟩ => ⟨lo, hi, c, e, n, h, q⟩, fun ⟨lo, hi, c, e, n, h, q⟩ => ⟨lo, hi, c, n, e, h, q⟩⟩
theorem rng3P_of {lo hi c : Int} {n : Nat} {g : QTG} {b : QS} (h : RgC lo hi c n) (I : Nat → Sl → Mem → Prop) (h0 : I 0 env M)
    (hs : ∀ (i : Nat) env M, i < n → I i env M → g (.int (lo + i * c)) env M fun env' M' => b { D with nx := I (i + 1), bk := D.nx, ct := I (i + 1) } env' M') (hn : ∀ env M, I n env M → D.nx env M) : rng3P lo hi c g b D env M :=
  ⟨n, h, I, h0, fun _ _ _ _ _ => trivial, fun i x env M hi' hx q => by subst hx; exact hs i env M hi' q, hn⟩
theorem isB_ll {Q : Box PK} : @isiB K (.lst xs) (.ty "list") M Q = Q.v (.bl true) M := isiP rfl trivial rfl rfl
theorem isB_tl {Q : Box PK} : @isiB K (.tup xs) (.ty "list") M Q = Q.v (.bl false) M := isiP rfl trivial rfl rfl
theorem isB_rl {Q : Box PK} (h : M a = some (.lst xs)) : @isiB K (.ref a) (.ty "list") M Q = Q.v (.bl true) M := by
  have e : tyP M (.ref a) = some (.type "list") := by
    show (match M a with
      | some (.lst _) => some (Value.type "list")
      | some (.dic _ _) => some (.type "dict")
      | some (.ins C _ _) => some (.ref C)
      | _ => none) = _
    rw [h]
  exact isiP e trivial rfl rfl
theorem sl_tupQ {lo hi : Option Int} : bSl lo hi (.tup xs) M Q = (¬ (HT.sIx xs.length 0 lo = 0 ∧ HT.sIx xs.length xs.length hi = xs.length) ∧ Q (.tup ((xs.drop (HT.sIx xs.length 0 lo)).take (HT.sIx xs.length xs.length hi - HT.sIx xs.length 0 lo))) M) := rfl
end
end TN

/-! for a, b in zip(list, list) -/
namespace TQ
open PySem PySem.Spec PyProof.Rows L2
def sForZ (t : QA) (g : QTG) (b : QS) : QS := fun D env M => t env M (fun zs M1 => ∃ xs ys, zs = [.lst xs, .lst ys] ∧ xs.length = ys.length ∧ forI xs.length (fun i x => ∃ u v, xs[i]? = some u ∧ ys[i]? = some v ∧ x = .tup [u, v]) (fun _ => True) g b D env M1) (exE D env)
section
variable {X : Cx} {W : WX} {pos : Pos}
theorem qs_forZ {a c : Expr} {body : List Stmt} {t : QA} {g : QTG} {b : QS} {p pos' tpos : Pos} {elts : List Expr} {kk : Nat} (po : PassesOwn (model X.prog X.w) X.A X.env X.xe) (hc : X.calm = true) (hm : X.mg "zip" = none) (ha : QPA X W [a, c] t) (hgt : QPG X (.Tuple elts kk tpos) g) (hb : QPSs X W body b) (hg : Gl X "zip" := by rfl)
    (hs : starEach [a, c] X.env = (false, eval a X.env) :: starEach [c] X.env := by rfl) (hpl : (backTo pos' (starEach [c] X.env)).any (·.1) = false := by rfl) (hfs : ∀ x, foldedSetIterable (.Call (.Name "zip" p) [a, c] [] pos') X.env x = pure x := by intro _; rfl) :
    QPS X W (.For (.Tuple elts kk tpos) (.Call (.Name "zip" p) [a, c] [] pos') body [] pos) (sForZ t g b) :=
  (ps_for po hc (pi_zip hg hm ha hs hpl) hgt hb hfs).imp fun D σ H ⟨env, M, G, D0, S, q, L⟩ => by
    refine ⟨env, M, G, _, _, S, q, fun zs M1 vs H1 G1 e1 w1 r1 q1 => ?_, liftX_E S.env L.ex⟩
    obtain ⟨xs, ys, rfl, hl, I, i0, _, hs, hd⟩ := q1
    obtain ⟨u, v, rfl, ru, rv⟩ := reps2 r1
    obtain ⟨a, us, rfl, h1, ra⟩ := ru
    obtain ⟨c, vs, rfl, h2, rc⟩ := rv
    refine ⟨a, c, us, vs, rfl, SqL.of (w1.sub _ _ h1), SqL.of (w1.sub _ _ h2), RZ.for_zipL (by rw [← ra.length, ← rc.length, hl]) (PvQ X.K G1 I) ⟨env, M1, G1, Ext.refl _, S.to e1 w1, i0⟩ (fun i σ H ⟨env, M, G2, e2, S2, q2⟩ => ⟨SqL.of (S2.wf.sub _ _ (e2 _ _ h1)), SqL.of (S2.wf.sub _ _ (e2 _ _ h2))⟩)
      (fun i x y T σ H hx hy ⟨env, M, G2, e2, S2, q2⟩ hT => ?_) (fun σ H ⟨env, M, G2, e2, S2, q2⟩ => L.nx env M σ H G2 (e1.trans e2) S2 (hd env M (by rw [ra.length]; exact q2)))⟩
    obtain ⟨x', hx', rx⟩ := ra.getV hx
    obtain ⟨y', hy', ry⟩ := rc.getV hy
    have eT : Ext G2 (upd G2 T (.tup [x, y])) := Ext.new (S2.wf.free hT)
    have S3 : Sim X.K env M (upd G2 T (.tup [x, y])) σ (upd H T (.tup [x, y])) := ⟨S2.env.mono eT, S2.wf.newG hT⟩
    exact turnQ (L.mono e1) (e2.trans eT) S3 (x := .tup [x', y']) ⟨T, _, rfl, SqT.of upd_same, Reps.cons (Rep.mono (e2.trans eT) _ _ rx) (Reps.cons (Rep.mono (e2.trans eT) _ _ ry) Reps.nil)⟩ (hs i _ env M (List.getElem?_eq_some_iff.mp hx').1 ⟨_, _, hx', hy', rfl⟩ q2)
/-! comprehensions over lists whose elements write; the list is kept as it stands at the end -/
def lcWQ (items : List PV) (slots : PV → Sl) (te : QT) (M1 : Mem) (Q : PK) : Prop := items.length ≤ 100000 ∧ ∃ I : Nat → List PV → Mem → Prop, I 0 [] M1 ∧
  (∀ i x acc M2 D, items[i]? = some x → acc.length = i → I i acc M2 → M2 D = none → te (slots x) (mset M2 D (.lst acc)) (fun y M3 => ∃ M4, M3 = mset M4 D (.lst acc) ∧ M4 D = none ∧ I (i + 1) (acc ++ [y]) M4) EF) ∧ ∀ acc M2, acc.length = items.length → I items.length acc M2 → Q (.lst acc) M2
def qLcLW (j : Nat) (vs : List Nat) (tl : QT) (te : QT) : QT := fun env M Q E => tl env M (fun x M1 => ∃ items, x = .lst items ∧ lcWQ items (fun y => (wipeQ env vs).set j (some y)) te M1 Q) E
theorem lcLW_imp {own : List Nat} {j : Nat} {tl : QT} {te : QT} {σ : L2.St} {H : Hp} {Q : VK} (hj : j ∈ own) (h : tie X.K W (qLcLW j own tl te) σ H Q) : tLc (iList X.K (tie X.K W tl)) (gName j) (tieB X.K W0 qYes) (tie X.K W0 te) own σ H Q := by
  obtain ⟨env, M, G, Q0, E0, S, q, L, LE⟩ := h
  refine ⟨env, M, G, _, E0, S, q, fun y M1 v H1 G1 e1 w1 r1 q1 => ?_, LE⟩
  obtain ⟨items, rfl, hn, I, i0, hI, hE⟩ := q1
  obtain ⟨p, vs, rfl, h1, rs⟩ := r1
  refine ⟨p, rfl, ⟨_, SqL.of (w1.sub _ _ h1)⟩, fun D hD => ?_⟩
  have hM := w1.freeM hD
  refine ⟨fun i m H => m = items.length - i ∧ i ≤ items.length ∧ ∃ G' M2 acc, Ext G1 G' ∧ Wf X.K (mset M2 D (.lst acc)) H G' ∧ M2 D = none ∧ acc.length = i ∧ I i acc M2, ⟨items.length, by omega, Nat.zero_le _, G1, M1, [], Ext.refl _, w1.put (w1.free hD) (mok_lst Reps.nil), hM, rfl, i0⟩, fun i m H ⟨hm, hi, G', M2, acc, e', w', hM2, hl, i1⟩ => ?_⟩
  have hT := SqL.of (K := X.K) (w'.sub _ _ (e' _ _ h1))
  by_cases hz : i = items.length
  · subst hz
    obtain ⟨ws, h2, r2, g0, w2⟩ := w'.freeze hM2
    exact .inl ⟨⟨vs, hT, by rw [rs.length]; exact Nat.le_refl _⟩, (L.mono e1) (.lst acc) M2 _ H _ (e'.trans (Ext.new g0)) w2 ⟨D, ws, rfl, upd_same, Reps.mono (Ext.new g0) _ _ r2⟩ (hE acc M2 hl i1)⟩
  · have hlt : i < items.length := by omega
    have hx := List.getElem?_eq_getElem hlt
    obtain ⟨v, hv, rv⟩ := rs.get hx
    refine .inr ⟨⟨vs, v, hT, hv⟩, fun H => ∃ G' M2 acc, Ext G1 G' ∧ Wf X.K (mset M2 D (.lst acc)) H G' ∧ M2 D = none ∧ acc.length = i + 1 ∧ I (i + 1) acc M2, fun H' h => ⟨m - 1, by omega, by omega, by omega, h⟩, fun z H' hy => ?_⟩
    obtain ⟨rfl, hy⟩ := hy
    have ez := hy vs hT
    rw [hv] at ez
    cases ez
    refine ⟨wipe_set hj, ?_⟩
    have S2 : Sim X.K ((wipeQ env own).set j (some items[i])) _ G' ((L2.wipe σ own).set j (some v)) H' := ⟨((S.env.mono (e1.trans e')).wipe _).set (Rep.mono e' _ _ rv), w'⟩
    refine ⟨_, _, G', fun b M4 => b = true ∧ M4 = mset M2 D (.lst acc), EF, S2, ⟨rfl, rfl⟩, fun b M4 H3 G3 e3 w3 q3 => ?_, EF_lift⟩
    obtain ⟨rfl, rfl⟩ := q3
    rw [if_pos rfl]
    refine ⟨_, _, G3, _, EF, S2.to e3 w3, hI i _ acc M2 D hx hl i1 hM2, fun y M5 v H4 G4 e4 w4 ry q4 => ?_, EF_lift⟩
    obtain ⟨M6, rfl, hM6, q4⟩ := q4
    obtain ⟨g0, ws, h5, r5⟩ := w4.mem D _ mset_same
    have w5 := w4.put (p := D) (o := .lst (ws ++ [v])) (m := .lst (acc ++ [y])) g0 (mok_lst (r5.append (Reps.one ry)))
    rw [mset_mset] at w5
    refine ⟨ws, h5, by rw [← r5.length, sizeLine_eq]; omega, G4, M6, acc ++ [y], (e'.trans e3).trans e4, w5, hM6, by rw [List.length_append, hl]; rfl, q4⟩
theorem qe_lcLW {elt iter : Expr} {x : Str} {px : Pos} {scope : Scope} {own : List (Str × Nat)} {j : Nat} {tl : QT} {te : QT} (hc : X.calm = true) (hN : X.N.Nodup) (hl : QE X W iter tl) (hj : j ∈ own.map (·.2))
    (ok : BlkOk X.N X.env.scope scope own) (hg : ∀ (s : Shared) (H : Hp) (C : Addr) (cl : List (Str × Addr)) (fp : List Addr), PG (X.blk s H scope (compEnvC scope cl C X.env) fp) (.Name x px) (gName j))
    (ht : ∀ (s : Shared) (H : Hp) (C : Addr) (cl : List (Str × Addr)) (fp : List Addr), QPTs (X.blk s H scope (compEnvC scope cl C X.env) fp) [] qYes)
    (he : ∀ (s : Shared) (H : Hp) (C : Addr) (cl : List (Str × Addr)) (fp : List Addr), QE (X.blk s H scope (compEnvC scope cl C X.env) fp) W0 elt te) (hfs : ∀ v, foldedSetIterable iter X.env v = pure v := by intro _; rfl) :
    QE X W (.ListComp elt [{ target := .Name x px, iter := iter, ifs := [], is_async := 0 }] scope pos) (qLcLW j (own.map (·.2)) tl te) :=
  (pe_lc (tt := tieB X.K W0 qYes) (te := tie X.K W0 te) hc hN (pi_list hl) ok hg ht he hfs).imp fun σ H Q h => lcLW_imp hj h
theorem qs_lcLW (i : Nat) {y : Str} {py spos : Pos} {elt iter : Expr} {x : Str} {px : Pos} {scope : Scope} {own : List (Str × Nat)} {j : Nat} {tl : QT} {te : QT} (hc : X.calm = true) (hN : X.N.Nodup) (hl : QE X W iter tl) (hj : j ∈ own.map (·.2))
    (ok : BlkOk X.N X.env.scope scope own) (hg : ∀ (s : Shared) (H : Hp) (C : Addr) (cl : List (Str × Addr)) (fp : List Addr), PG (X.blk s H scope (compEnvC scope cl C X.env) fp) (.Name x px) (gName j))
    (ht : ∀ (s : Shared) (H : Hp) (C : Addr) (cl : List (Str × Addr)) (fp : List Addr), QPTs (X.blk s H scope (compEnvC scope cl C X.env) fp) [] qYes)
    (he : ∀ (s : Shared) (H : Hp) (C : Addr) (cl : List (Str × Addr)) (fp : List Addr), QE (X.blk s H scope (compEnvC scope cl C X.env) fp) W0 elt te) (hfs : ∀ v, foldedSetIterable iter X.env v = pure v := by intro _; rfl) (hlo : X.env.scope.names.lookup y = some .local := by rfl) (hi : X.N[i]? = some y := by rfl) (hsw : swapsWith (.ListComp elt [{ target := .Name x px, iter := iter, ifs := [], is_async := 0 }] scope pos) (some (.Name y py)) spos.line X.env = pure true := by exact sw_true rfl rfl rfl (by decide +kernel)) :
    QPS X W (.Assign [.Name y py] (.ListComp elt [{ target := .Name x px, iter := iter, ifs := [], is_async := 0 }] scope pos) spos) (sAsg (qLcLW j (own.map (·.2)) tl te) (gNm i)) :=
  (ps_setLc (tt := tieB X.K W0 qYes) (te := tie X.K W0 te) hc hN hi hlo hsw (pi_list hl) ok hg ht he hfs).imp fun D σ H h => lcLW_imp hj (tieNm (tieAsg h) fun _ _ _ _ k z => tie_mono k z)
end
end TQ
namespace TN
open PySem PySem.Spec PyProof.Rows L2 TQ TM
section
variable {K : PySem.W.Frag} {env : Sl} {M : Mem} {D : QEnds} {xs ys : List PV}
def zipP (zs : List PV) (g : QTG) (b : QS) (D : QEnds) (env : Sl) (M : Mem) : Prop := ∃ xs ys, zs = [.lst xs, .lst ys] ∧ xs.length = ys.length ∧ forI xs.length (fun i x => ∃ u v, xs[i]? = some u ∧ ys[i]? = some v ∧ x = .tup [u, v]) (fun _ => True) g b D env M
theorem e_sForZ {t : QA} {g : QTG} {b : QS} : sForZ t g b D env M = t env M (fun zs M1 => zipP zs g b D env M1) (exE D env) := rfl
theorem zipP_of {g : QTG} {b : QS} (hl : xs.length = ys.length) (h : forI xs.length (fun i x => ∃ u v, xs[i]? = some u ∧ ys[i]? = some v ∧ x = .tup [u, v]) (fun _ => True) g b D env M) : zipP [.lst xs, .lst ys] g b D env M := ⟨xs, ys, rfl, hl, h⟩
def lcW (x : PV) (vs : List Nat) (j : Nat) (te : QT) (env : Sl) (M : Mem) [Q : Box PK] : Prop := ∃ items, x = .lst items ∧ lcWQ items (fun y => (wipeQ env vs).set j (some y)) te M Q.v
theorem e_lcLW {j : Nat} {vs : List Nat} {tl te : QT} {Q : PK} {E : EK} : qLcLW j vs tl te env M Q E = tl env M (fun x M1 => @lcW x vs j te env M1 ⟨Q⟩) E := rfl
theorem lcW_of {j : Nat} {vs : List Nat} {te : QT} {Q : Box PK} (hn : xs.length ≤ 100000) (I : Nat → List PV → Mem → Prop) (h0 : I 0 [] M)
    (h : ∀ i x acc M2 D, xs[i]? = some x → acc.length = i → I i acc M2 → M2 D = none → te ((wipeQ env vs).set j (some x)) (mset M2 D (.lst acc)) (fun y M3 => ∃ M4, M3 = mset M4 D (.lst acc) ∧ M4 D = none ∧ I (i + 1) (acc ++ [y]) M4) EF) (hq : ∀ acc M2, acc.length = xs.length → I xs.length acc M2 → Q.v (.lst acc) M2) : @lcW (.lst xs) vs j te env M Q := ⟨xs, rfl, hn, I, h0, h, hq⟩
end
end TN

/-! lambdas: made, handed to a def, called there -/
namespace TQ
open PySem PySem.Spec PyProof.Rows L2
/-! ### making -/
def cloX (X : Cx) (L : LamT) : List (Str × Addr) := cloFrom X.env.cells L.sc.names []
theorem cloFrom_names (cells : List (Str × Addr)) : ∀ (ns : List (Str × NameKind)) (acc : List (Str × Addr)), (cloFrom cells ns acc).map (·.1) = ((ns.filter fun y => y.2 == .free).map (·.1)).reverse ++ acc.map (·.1)
  | [], acc => rfl
  | (n, k) :: r, acc => by
    unfold cloFrom
    by_cases h : (k == NameKind.free) = true
    · rw [if_pos h, cloFrom_names cells r, List.filter_cons_of_pos (p := fun y : Str × NameKind => y.2 == .free) h, List.map_cons, List.map_cons, List.reverse_cons, List.append_assoc]
      rfl
    · rw [if_neg h, cloFrom_names cells r, List.filter_cons_of_neg (p := fun y : Str × NameKind => y.2 == .free) h]
theorem clo_names (X : Cx) (L : LamT) : (cloX X L).map (·.1) = capN L := by
  unfold cloX capN
  rw [cloFrom_names]
  simp
/-- the names that a lambda captures stand in its maker's cells -/
def FreeIn (sc : Scope) (L : LamT) : Prop := ∀ y ∈ L.sc.names, y.2 = .free → sc.names.lookup y.1 = some .cell ∨ sc.names.lookup y.1 = some .free
section
variable {X : Cx} {pins : List (Addr × Obj)} {σ : L2.St} {H : Hp} {s : Shared} {L : LamT}
theorem clo_cell (hf : FreeIn X.env.scope L) (ok : X.Ok) {y : Str} {c : Addr} (h : (y, c) ∈ cloX X L) : X.env.cells.lookup y = some c := by
  rcases cloFrom_mem h with z | ⟨h1, h2⟩
  · cases z
  · obtain ⟨c1, e⟩ := ok.has y (hf _ h1 rfl)
    rw [e] at h2
    rw [e, h2]
    rfl
theorem clo_ok (hf : FreeIn X.env.scope L) (ok : X.Ok) : ClOk L (cloX X L) := by
  refine ⟨clo_names X L, fun y c d h1 h2 => ?_, fun y hy e => ?_, fun x y c e1 e2 => ?_⟩
  · have e1 := clo_cell hf ok h1
    rw [clo_cell hf ok h2] at e1
    exact (Option.some.inj e1).symm
  · have hy' : (y.1, NameKind.free) ∈ L.sc.names := by rw [← e]; exact hy
    exact mem_lookup (cloFrom_has (cells := X.env.cells) (acc := []) hy')
  · exact ok.inj x y c (clo_cell hf ok (PySem.mem_of_lookup e1)) (clo_cell hf ok (PySem.mem_of_lookup e2))
theorem tabS_keep {H H1 : Hp} {P : Addr} {q : Str} (t : LamX.TabS H P q) (h : H1 P = H P) (e : ∀ b u, H b = some u → Fix u → H1 b = some u) : LamX.TabS H1 P q := by
  obtain ⟨ps, h1, h2, h3⟩ := t
  refine ⟨ps, h.trans h1, h2, fun pos cv hc => ?_⟩
  obtain ⟨c, e1, e2⟩ := h3 pos cv hc
  exact ⟨c, e1, e _ _ e2 trivial⟩
theorem lam_made {P c : Addr} {pos : Pos} {E : Value → Shared → Prop} {Q : Value → Shared → Prop} (I : Inv X pins σ H s) (hq : L.q = X.env.qual ++ "<lambda>") (TB : LamX.TabB X.base X.mg c P) (hcode : X.env.code = .ref c)
    (hT : LamX.TabS H P L.q) (hdef : defaultsOf L.pa X.env = ([], [])) (hf : FreeIn X.env.scope L)
    (h : ∀ (f c' : Addr) (H1 : Hp) (s' : Shared), Inv X pins σ H1 s' → (∀ b o, b ≠ P → H b = some o → H1 b = some o) → LamX.TabS H1 P L.q → H f = none → H1 f = some (LamO f L (cloX X L) c') → H1 c' = some (LamX.CodeO c' L.q) → Q (.ref f) s') :
    wpAny (model X.prog X.w) X.A (eval (.Lambda L.pa L.body L.sc pos) X.env) Q E s := by
  have hhas : ∀ y ∈ L.sc.names, y.2 = .free → ∃ c, X.env.cells.lookup y.1 = some c := fun y hy e => I.ok.has _ (hf y hy e)
  obtain ⟨ps, hP, ht, ha⟩ := hT
  have bP : s.heap.BuiltinsAt X.mg P := TB.bm.keeps I.bk
  have hgl := I.mod.glob.keeps I.bk
  have hcd := TB.code.keeps I.bk
  have mk : ∀ {H1 : Hp} {h1 : Heap} {tk : Nat} {c' : Addr} {pm ctv : Value}, Inv X pins σ H1 { s with heap := h1, toks := tk } → Inv X pins σ (upd H1 h1.objs.size (LamO h1.objs.size L (cloX X L) c')) { s with heap := h1.push (PySem.W.kla_obj "<lambda>" L.q L.pa L.body L.sc (cloX X L) pm c' ctv), toks := tk } := fun {H1 h1 tk c' pm ctv} J => by
    refine J.laid (a := h1.objs.size) (t' := tk) (fun b u e => Heap.get?_push_of_some _ e) (Nat.le_refl _) ?_
    have e : (h1.push (PySem.W.kla_obj "<lambda>" L.q L.pa L.body L.sc (cloX X L) pm c' ctv)).get? h1.objs.size = some (PySem.W.kla_obj "<lambda>" L.q L.pa L.body L.sc (cloX X L) pm c' ctv) := Heap.get?_push_size _ rfl
    exact ⟨⟨pm, ctv, e⟩, ⟨_, e⟩, fun _ _ ⟨p, t, z⟩ st => ⟨p, t, st _ z⟩⟩
  refine PySem.W.kla_eval hdef ?_
  rw [← hq]
  cases hc : codeAmong pos ps.toList with
  | none =>
    refine PySem.W.kla_makeFunction (mg := X.mg) (c := c) (P := P) (ps := ps) (clos := cloX X L) (closure_ok hhas) I.ok.glob hgl hcode hcd (I.hok P _ hP) ht hc TB.gP bP fun c' ctv h' tk hx hge hlt hrec htb => ?_
    obtain ⟨c2, oc, vs, t, e2, hoc, hd, hv⟩ := hrec
    cases e2
    have nC : H c' = none := I.hok.fresh hge
    have cP : c' ≠ P := fun z => by rw [z, hP] at nC; cases nC
    have J := LamX.inv_table (t' := tk) (more := #[rawInt pos.line, rawInt pos.col, .ref c']) (h' := h') I hP hx htb hge ⟨oc, vs, t, hoc, hd, hv⟩
    have nF := J.hok.fresh (Nat.le_refl h'.objs.size)
    have fP : P ≠ h'.objs.size := fun z => by rw [← z, upd_ne cP.symm, upd_same] at nF; cases nF
    have old : ∀ b o, b ≠ P → H b = some o → upd (upd (upd H P (.tbl (ps ++ #[rawInt pos.line, rawInt pos.col, .ref c']))) c' (LamX.CodeO c' L.q)) h'.objs.size (LamO h'.objs.size L (cloX X L) c') b = some o := fun b o hb e => by
      have e1 : upd (upd H P (.tbl (ps ++ #[rawInt pos.line, rawInt pos.col, .ref c']))) c' (LamX.CodeO c' L.q) b = some o := by rw [upd_ne (ne_of_none e nC), upd_ne hb]; exact e
      rw [upd_ne (ne_of_none e1 nF)]
      exact e1
    have hc' : upd (upd (upd H P (.tbl (ps ++ #[rawInt pos.line, rawInt pos.col, .ref c']))) c' (LamX.CodeO c' L.q)) h'.objs.size (LamO h'.objs.size L (cloX X L) c') c' = some (LamX.CodeO c' L.q) := by rw [upd_ne (Nat.ne_of_lt hlt), upd_same]
    refine h h'.objs.size c' _ _ (mk J) old ⟨ps ++ #[rawInt pos.line, rawInt pos.col, .ref c'], ?_, ?_, fun p' cv hcv => ?_⟩ (I.hok.fresh (Nat.le_trans hge (Nat.le_of_lt hlt))) upd_same hc'
    · rw [upd_ne fP, upd_ne cP.symm, upd_same]
    · rw [Array.toList_append]; exact PySem.TriplesOk_snoc _ _ _ _ ht
    · rw [Array.toList_append] at hcv
      rcases LamX.among_app _ ht hcv with z | z
      · obtain ⟨c0, e1, e2⟩ := ha p' cv z
        exact ⟨c0, e1, old _ _ (fun q => by rw [q, hP] at e2; cases e2) e2⟩
      · exact ⟨c', z, hc'⟩
  | some cv =>
    obtain ⟨c', e, hco⟩ := ha pos cv hc
    subst e
    refine PySem.W.kla_makeFunctionHit (mg := X.mg) (c := c) (P := P) (ps := ps) (clos := cloX X L) (closure_ok hhas) I.ok.glob hgl hcode hcd (I.hok P _ hP) ht hc bP fun ctv h' tk hx hsz => ?_
    have J : Inv X pins σ H { s with heap := h', toks := tk } := I.kept hx
    have nF : H h'.objs.size = none := J.hok.fresh (Nat.le_refl _)
    have old : ∀ b o, H b = some o → upd H h'.objs.size (LamO h'.objs.size L (cloX X L) c') b = some o := fun b o e => by rw [upd_ne (ne_of_none e nF)]; exact e
    exact h h'.objs.size c' _ _ (mk J) (fun b o _ e => old b o e) (LamX.TabS.ext ⟨ps, hP, ht, ha⟩ old) nF upd_same (old _ _ hco)
end
def qLam (P : Addr) (L : LamT) (cl : List (Str × Addr)) : QT := fun env M Q _ => M P = some (.tab L.q) ∧ ∀ f, M f = none → Q (.ref f) (mset M f (.lam L cl none))
theorem qe_lam {X : Cx} {W : WX} {P c : Addr} (L : LamT) {pos : Pos} (hq : L.q = X.env.qual ++ "<lambda>") (TB : LamX.TabB X.base X.mg c P) (hcode : X.env.code = .ref c) (hdef : defaultsOf L.pa X.env = ([], [])) (hf : FreeIn X.env.scope L) :
    QE X W (.Lambda L.pa L.body L.sc pos) (qLam P L (cloX X L)) := by
  refine ⟨fun pins s σ H Q I ⟨env, M, G, Q0, E0, S, ⟨hP, q⟩, LV, LE⟩ => ?_⟩
  obtain ⟨gP, hT⟩ := S.wf.mem P _ hP
  refine lam_made I hq TB hcode hT hdef hf fun f c' H1 s' I1 old hT1 nf hF hC => ?_
  have nM := S.wf.freeM nf
  have gf := S.wf.free nf
  have fP : f ≠ P := by rintro rfl; rw [hP] at nM; cases nM
  refine ⟨.ref f, H1, I1, rfl, LV (.ref f) _ _ H1 G (Ext.refl G) ⟨fun b o e => old b o (fun z => by rw [z, gP] at e; cases e) (S.wf.sub b o e), fun a m e => ?_, S.wf.ntb⟩ rfl (q f nM)⟩
  have fx : ∀ b u, H b = some u → Fix u → H1 b = some u := fun b u e hu => old b u (fun z => by
    obtain ⟨ps, h1, _⟩ := hT
    rw [z, h1] at e
    cases e
    exact hu) e
  by_cases ha : a = f
  · subst ha
    rw [mset_same] at e
    cases e
    exact ⟨gf, c', hF, hC, clo_ok hf I.ok, fun xs z => by cases z⟩
  · rw [mset_ne ha] at e
    obtain ⟨g, k⟩ := S.wf.mem a m e
    refine ⟨g, ?_⟩
    by_cases hb : a = P
    · subst hb
      rw [hP] at e
      cases e
      exact hT1
    · obtain ⟨o, ho⟩ := k.some
      exact k.mono (Ext.refl G) (fun _ _ _ _ n => n) fx ((old a o hb ho).trans ho.symm)
/-! ### cells that stand still while a call runs -/
/-- the lambdas' cells may move again -/
def calmL (M : Mem) : Mem := fun a => match M a with
  | some (.lam L cl (some _)) => some (.lam L cl none)
  | o => o
theorem calm_lst {M : Mem} {a : Addr} {xs : List PV} (h : M a = some (.lst xs)) : calmL M a = some (.lst xs) := by unfold calmL; rw [h]
theorem calm_dic {M : Mem} {a : Addr} {ks : List Key} {xs : List PV} (h : M a = some (.dic ks xs)) : calmL M a = some (.dic ks xs) := by unfold calmL; rw [h]
theorem calm_ins {M : Mem} {a C : Addr} {ns : List Str} {xs : List PV} (h : M a = some (.ins C ns xs)) : calmL M a = some (.ins C ns xs) := by unfold calmL; rw [h]
theorem calm_tab {M : Mem} {a : Addr} {q : Str} (h : M a = some (.tab q)) : calmL M a = some (.tab q) := by unfold calmL; rw [h]
theorem calm_non {M : Mem} {a : Addr} (h : M a = none) : calmL M a = none := by unfold calmL; rw [h]
theorem of_calm {M : Mem} {a : Addr} {m : MO} (h : calmL M a = some m) : (M a = some m ∧ ∀ L cl xs, m ≠ .lam L cl (some xs)) ∨ ∃ L cl xs, M a = some (.lam L cl (some xs)) ∧ m = .lam L cl none := by
  unfold calmL at h
  split at h
  · rename_i L cl xs e
    cases h
    exact .inr ⟨L, cl, xs, e, rfl⟩
  · rename_i z
    exact .inl ⟨h, fun L cl xs q => z L cl xs (by rw [h, q])⟩
abbrev stillO (o : Obj) : HO := .frz o (.ext fun _ => True)
/-- the objects at cs are known, and stay -/
def still (h : Heap) (cs : List Addr) (H : Hp) : Hp := fun b => if b ∈ cs then (h.get? b).map stillO else H b
def moves (cs : List Addr) (H : Hp) : Hp := fun b => if b ∈ cs then none else H b
theorem still_in {h : Heap} {cs : List Addr} {H : Hp} {b : Addr} {o : Obj} (hb : b ∈ cs) (e : h.get? b = some o) : still h cs H b = some (stillO o) := by unfold still; rw [if_pos hb, e]; rfl
theorem still_out {h : Heap} {cs : List Addr} {H : Hp} {b : Addr} (hb : b ∉ cs) : still h cs H b = H b := if_neg hb
theorem moves_in {cs : List Addr} {H : Hp} {b : Addr} (hb : b ∈ cs) : moves cs H b = none := if_pos hb
theorem moves_out {cs : List Addr} {H : Hp} {b : Addr} (hb : b ∉ cs) : moves cs H b = H b := if_neg hb
theorem moves_of {cs : List Addr} {H : Hp} {b : Addr} {o : HO} (e : moves cs H b = some o) : H b = some o ∧ b ∉ cs := by
  by_cases hb : b ∈ cs
  · rw [moves_in hb] at e; cases e
  · rw [moves_out hb] at e; exact ⟨e, hb⟩
section
variable {P : Program} {w : World} {K : PySem.W.Frag} {mg : Str → Option Value} {base : Heap} {A : Around} {outer : List Env} {s s' : Shared} {H H' G G' : Hp} {h h' : Heap} {cs : List Addr} {M : Mem}
theorem hok_still (ok : HOk P w H h) (n : ∀ c ∈ cs, H c = none) (ex : ∀ c ∈ cs, ∃ o, h.get? c = some o) : HOk P w (still h cs H) h := fun a u e => by
  by_cases ha : a ∈ cs
  · obtain ⟨o, ho⟩ := ex a ha
    rw [still_in ha ho] at e
    cases e
    exact ⟨ho, trivial, ⟨o, ho⟩, fun _ _ _ _ => trivial⟩
  · rw [still_out ha] at e
    have out : ∀ b v, H b = some v → b ∉ cs := fun b v q z => by rw [n b z] at q; cases q
    exact (ok a u e).stay (fun b v _ q => q) (fun b q => by rw [still_out (out b _ q)]; exact q) fun b xs q => by rw [still_out (out b _ q)]; exact q
theorem hok_moves (ok : HOk P w H h) (n : ∀ c ∈ cs, ∃ o, H c = some (stillO o)) : HOk P w (moves cs H) h := fun a u e => by
  obtain ⟨e, ha⟩ := moves_of e
  have out : ∀ b v, H b = some v → (∀ o, v ≠ stillO o) → b ∉ cs := fun b v q nv z => by
    obtain ⟨o, ho⟩ := n b z
    rw [ho] at q
    cases q
    exact nv o rfl
  exact (ok a u e).stay (fun b v _ q => q) (fun b q => by rw [moves_out (out b _ q (fun o z => by cases z))]; exact q) fun b xs q => by rw [moves_out (out b _ q (fun o z => by cases z))]; exact q
/-- behind a call for which cells stood still -/
theorem un_still {fs : List Addr} (n : ∀ c ∈ cs, H c = none) (ex : ∀ c ∈ cs, ∃ o, h.get? c = some o) (ok' : HOk P w H' h') (u : Un fs [] (still h cs H) H' h h') : Un fs [] H (moves cs H') h h' where
  keep := fun b o e nb hb hx => by
    by_cases hc : b ∈ cs
    · exact (ok' b _ (u.frzs b _ _ (still_in hc e))).1
    · exact u.keep b o e (by rw [still_out hc]; exact nb) hb hx
  slot := fun b o e nb hb hx => by
    by_cases hc : b ∈ cs
    · exact ⟨o.slots, (ok' b _ (u.frzs b _ _ (still_in hc e))).1⟩
    · exact u.slot b o e (by rw [still_out hc]; exact nb) hb hx
  free := fun b o e nb hx => by
    by_cases hc : b ∈ cs
    · exact moves_in hc
    · rw [moves_out hc]; exact u.free b o e (by rw [still_out hc]; exact nb) hx
  there := u.there
  tups := fun b xs e => by
    have hc : b ∉ cs := fun z => by rw [n b z] at e; cases e
    rw [moves_out hc]
    exact u.tups b xs (by rw [still_out hc]; exact e)
  frzs := fun b o v e => by
    have hc : b ∉ cs := fun z => by rw [n b z] at e; cases e
    rw [moves_out hc]
    exact u.frzs b o v (by rw [still_out hc]; exact e)
  tbls := fun b ps e => by
    have hc : b ∉ cs := fun z => by rw [n b z] at e; cases e
    rw [moves_out hc]
    exact u.tbls b ps (by rw [still_out hc]; exact e)
theorem still_after {fs : List Addr} (ex : ∀ c ∈ cs, ∃ o, h.get? c = some o) (u : Un fs [] (still h cs H) H' h h') : ∀ c ∈ cs, ∃ o, H' c = some (stillO o) := fun c hc => by
  obtain ⟨o, ho⟩ := ex c hc
  exact ⟨o, u.frzs c _ _ (still_in hc ho)⟩
/-- behind a call for which cells that stood still might move -/
def back (cs : List Addr) (H H' : Hp) : Hp := fun b => if b ∈ cs then H b else H' b
theorem back_in {b : Addr} (hb : b ∈ cs) : back cs H H' b = H b := if_pos hb
theorem back_out {b : Addr} (hb : b ∉ cs) : back cs H H' b = H' b := if_neg hb
theorem hok_back {B : Heap} (ok' : HOk P w H' B) (n : ∀ c ∈ cs, ∃ o, H c = some (stillO o) ∧ B.get? c = some o) (f : ∀ c ∈ cs, H' c = none) : HOk P w (back cs H H') B := fun a u e => by
  by_cases ha : a ∈ cs
  · obtain ⟨o, h1, h2⟩ := n a ha
    rw [back_in ha, h1] at e
    cases e
    exact ⟨h2, trivial, ⟨o, h2⟩, fun _ _ _ _ => trivial⟩
  · rw [back_out ha] at e
    have out : ∀ b v, H' b = some v → b ∉ cs := fun b v q z => by rw [f b z] at q; cases q
    exact (ok' a u e).stay (fun b v _ q => q) (fun b q => by rw [back_out (out b _ q)]; exact q) fun b xs q => by rw [back_out (out b _ q)]; exact q
theorem un_back {fs : List Addr} (n : ∀ c ∈ cs, ∃ o, H c = some (stillO o)) (u : Un fs [] (moves cs H) H' h h') : Un fs [] H (back cs H H') h h' := by
  have out : ∀ b, H b = none → b ∉ cs := fun b q z => by
    obtain ⟨o, ho⟩ := n b z
    rw [ho] at q; cases q
  have mv : ∀ b, H b = none → moves cs H b = none := fun b q => by rw [moves_out (out b q)]; exact q
  refine ⟨fun b o e nb hb hx => u.keep b o e (mv b nb) hb hx, fun b o e nb hb hx => u.slot b o e (mv b nb) hb hx, fun b o e nb hx => ?_, u.there, fun b xs e => ?_, fun b o v e => ?_, fun b ps e => ?_⟩
  · rw [back_out (out b nb)]; exact u.free b o e (mv b nb) hx
  · have hc : b ∉ cs := fun z => by
      obtain ⟨o, ho⟩ := n b z
      rw [ho] at e; cases e
    rw [back_out hc]; exact u.tups b xs (by rw [moves_out hc]; exact e)
  · by_cases hc : b ∈ cs
    · rw [back_in hc]; exact e
    · rw [back_out hc]; exact u.frzs b o v (by rw [moves_out hc]; exact e)
  · have hc : b ∉ cs := fun z => by
      obtain ⟨o, ho⟩ := n b z
      rw [ho] at e; cases e
    rw [back_out hc]; exact u.tbls b ps (by rw [moves_out hc]; exact e)
theorem ub_back {fs : List Addr} {B : Heap} (n : ∀ c ∈ cs, ∃ o, H c = some (stillO o)) (u : UB fs (moves cs H) H' h B h') : UB fs H (back cs H H') h B h' := by
  have out : ∀ b, H b = none → b ∉ cs := fun b q z => by
    obtain ⟨o, ho⟩ := n b z
    rw [ho] at q; cases q
  have mv : ∀ b, H b = none → moves cs H b = none := fun b q => by rw [moves_out (out b q)]; exact q
  refine ⟨fun b o e nb hb => u.keep b o e (mv b nb) hb, u.slot, fun b o e nb => ?_, u.there, fun b xs e => ?_, fun b o v e => ?_, fun b ps e => ?_⟩
  · rw [back_out (out b nb)]; exact u.free b o e (mv b nb)
  · have hc : b ∉ cs := fun z => by
      obtain ⟨o, ho⟩ := n b z
      rw [ho] at e; cases e
    rw [back_out hc]; exact u.tups b xs (by rw [moves_out hc]; exact e)
  · by_cases hc : b ∈ cs
    · rw [back_in hc]; exact e
    · rw [back_out hc]; exact u.frzs b o v (by rw [moves_out hc]; exact e)
  · have hc : b ∉ cs := fun z => by
      obtain ⟨o, ho⟩ := n b z
      rw [ho] at e; cases e
    rw [back_out hc]; exact u.tbls b ps (by rw [moves_out hc]; exact e)
/-- what a call starts from, cells standing still or moving again -/
theorem env0_still (e : Env0 P w K mg base A outer s H) (n : ∀ c ∈ cs, H c = none) (ex : ∀ c ∈ cs, ∃ o, s.heap.get? c = some o) (nb : ∀ c ∈ cs, base.get? c = none) (nf : ∀ c ∈ cs, c ∉ frs outer) : Env0 P w K mg base A outer s (still s.heap cs H) :=
  ⟨e.frames, e.mod, fun b o q => ⟨(e.bs b o q).1, by rw [still_out (fun z => by rw [nb b z] at q; cases q)]; exact (e.bs b o q).2⟩, e.bsz, e.funs, fun b hb => by rw [still_out (fun z => nf b z hb)]; exact e.frf b hb, hok_still e.hok n ex, e.bare⟩
theorem env0_moves (e : Env0 P w K mg base A outer s H) (n : ∀ c ∈ cs, ∃ o, H c = some (stillO o)) : Env0 P w K mg base A outer s (moves cs H) := by
  have mv : ∀ b, H b = none → moves cs H b = none := fun b q => by
    by_cases hb : b ∈ cs
    · exact moves_in hb
    · rw [moves_out hb]; exact q
  exact ⟨e.frames, e.mod, fun b o q => ⟨(e.bs b o q).1, mv b (e.bs b o q).2⟩, e.bsz, e.funs, fun b hb => mv b (e.frf b hb), hok_moves e.hok n, e.bare⟩
end

/-! ### memory, cells standing still or moving again -/
section
variable {K : PySem.W.Frag} {G G' H H' H1 G1 : Hp} {M M1 M' : Mem} {f : Addr} {L : LamT} {cl : List (Str × Addr)} {vs : List PV}
theorem mok_loose {a : Addr} (hk : ∀ b φ, H b = some (.ext φ) → H' b = some (.ext φ)) (hh : H' a = H a) {m : MO} (nl : ∀ L cl xs, m ≠ .lam L cl (some xs)) (h : MOk K G H a m) : MOk K G H' a m := by
  cases m with
  | lst xs => obtain ⟨vs, h1, h2⟩ := h; exact ⟨vs, hh.trans h1, h2⟩
  | dic ks xs => obtain ⟨vs, h1, h2, h3⟩ := h; exact ⟨vs, hh.trans h1, h2, h3⟩
  | ins C ns xs => obtain ⟨dx, vs, h1, h2⟩ := h; exact ⟨dx, vs, hh.trans h1, h2⟩
  | lam L cl vals =>
    obtain ⟨c', h1, h2, h3, h4⟩ := h
    refine ⟨c', hk _ _ h1, hk _ _ h2, h3, fun xs hx => ?_⟩
    subst hx
    exact absurd rfl (nl L cl xs)
  | tab q =>
    obtain ⟨ps, h1, h2, h3⟩ := h
    refine ⟨ps, hh.trans h1, h2, fun pos cv hc => ?_⟩
    obtain ⟨c, e1, e2⟩ := h3 pos cv hc
    exact ⟨c, e1, hk _ _ e2⟩
theorem cells_at (hl : vs.length = cl.length) {c : Addr} (hc : c ∈ cl.map (·.2)) : ∃ (i : Nat) (y : Str) (x : PV), cl[i]? = some (y, c) ∧ vs[i]? = some x := by
  obtain ⟨p, hp, rfl⟩ := List.mem_map.mp hc
  obtain ⟨i, hi, e⟩ := List.getElem_of_mem hp
  exact ⟨i, p.1, vs[i], by rw [List.getElem?_eq_getElem hi, e], List.getElem?_eq_getElem (by omega)⟩
theorem lam_cells (w : Wf K M H G) (hf : M f = some (.lam L cl (some vs))) : ∀ c ∈ cl.map (·.2), G c = none ∧ ∃ o, H c = some (stillO o) := fun c hc => by
  obtain ⟨_, c', _, _, _, h4⟩ := w.mem f _ hf
  obtain ⟨hl, h5⟩ := h4 vs rfl
  obtain ⟨i, y, x, e1, e2⟩ := cells_at hl hc
  obtain ⟨g, o, z, v, q, _⟩ := h5 i y c x e1 e2
  exact ⟨g, o, q⟩
theorem Wf.calm (w : Wf K M H G) (hf : M f = some (.lam L cl (some vs))) : Wf K (calmL M) (moves (cl.map (·.2)) H) G := by
  have hc := lam_cells w hf
  have hx : ∀ b o, H b = some o → (∀ ob, o ≠ stillO ob) → moves (cl.map (·.2)) H b = some o := fun b o e n => by
    rw [moves_out (fun z => ?_)]
    · exact e
    · obtain ⟨_, ob, q⟩ := hc b z
      rw [e] at q
      cases q
      exact n ob rfl
  have he : ∀ b φ, H b = some (.ext φ) → moves (cl.map (·.2)) H b = some (.ext φ) := fun b φ e => hx b _ e (fun ob z => by cases z)
  refine ⟨fun b o e => ?_, fun a m e => ?_, w.ntb⟩
  · rw [moves_out (fun z => by rw [(hc b z).1] at e; cases e)]
    exact w.sub b o e
  · rcases of_calm e with ⟨e, nl⟩ | ⟨L2, cl2, xs, e', rfl⟩
    · obtain ⟨g, k⟩ := w.mem a m e
      refine ⟨g, mok_loose he ?_ nl k⟩
      cases m with
      | lst xs => obtain ⟨vs, h1, _⟩ := k; exact (hx _ _ h1 (fun ob z => by cases z)).trans h1.symm
      | dic ks xs => obtain ⟨vs, h1, _⟩ := k; exact (hx _ _ h1 (fun ob z => by cases z)).trans h1.symm
      | ins C ns xs => obtain ⟨dx, vs, h1, _⟩ := k; exact (hx _ _ h1 (fun ob z => by cases z)).trans h1.symm
      | lam L3 cl3 vals => obtain ⟨c', h1, _⟩ := k; exact (he _ _ h1).trans h1.symm
      | tab q => obtain ⟨ps, h1, _⟩ := k; exact (hx _ _ h1 (fun ob z => by cases z)).trans h1.symm
    · obtain ⟨g, c', h1, h2, h3, _⟩ := w.mem a _ e'
      exact ⟨g, c', he _ _ h1, he _ _ h2, h3, fun xs z => by cases z⟩
theorem Wf.still {h : Heap} (w : Wf K M H G) (hf : M f = some (.lam L cl none)) (hl : vs.length = cl.length) (n : ∀ c ∈ cl.map (·.2), H c = none)
    (hv : ∀ (i : Nat) y c x, cl[i]? = some (y, c) → vs[i]? = some x → ∃ (o : Obj) (z : Value) (v : V), h.get? c = some o ∧ o.data = .cell (some z) ∧ RelV v z ∧ Rep K G x v) :
    Wf K (mset M f (.lam L cl (some vs))) (TQ.still h (cl.map (·.2)) H) G := by
  have out : ∀ b o, H b = some o → b ∉ cl.map (·.2) := fun b o e z => by rw [n b z] at e; cases e
  have st : ∀ b o, H b = some o → TQ.still h (cl.map (·.2)) H b = some o := fun b o e => by rw [still_out (out b o e)]; exact e
  have gn : ∀ c ∈ cl.map (·.2), G c = none := fun c hc => w.free (n c hc)
  refine ⟨fun b o e => st b o (w.sub b o e), fun a m e => ?_, w.ntb⟩
  by_cases ha : a = f
  · subst ha
    rw [mset_same] at e
    cases e
    obtain ⟨g, c', h1, h2, h3, _⟩ := w.mem a _ hf
    refine ⟨g, c', st _ _ h1, st _ _ h2, h3, fun xs z => ?_⟩
    cases z
    refine ⟨hl, fun i y c x e1 e2 => ?_⟩
    obtain ⟨o, z, v, q1, q2, q3, q4⟩ := hv i y c x e1 e2
    have hc : c ∈ cl.map (·.2) := List.mem_map.mpr ⟨(y, c), List.mem_of_getElem? e1, rfl⟩
    exact ⟨gn c hc, o, z, v, still_in hc q1, q2, q3, q4⟩
  · rw [mset_ne ha] at e
    obtain ⟨g, k⟩ := w.mem a m e
    obtain ⟨o, ho⟩ := k.some
    exact ⟨g, k.mono (Ext.refl G) (fun _ _ _ _ q => q) (fun b u e _ => st b u e) ((st a o ho).trans ho.symm)⟩
theorem Wf.back (w1 : Wf K M1 H1 G1) (h1 : M1 f = some (.lam L cl (some vs))) (w : Wf K M' H' G') (e : Ext G1 G') (hf : M' f = some (.lam L cl none)) (n : ∀ c ∈ cl.map (·.2), H' c = none) :
    Wf K (mset M' f (.lam L cl (some vs))) (TQ.back (cl.map (·.2)) H1 H') G' := by
  have out : ∀ b o, H' b = some o → b ∉ cl.map (·.2) := fun b o e z => by rw [n b z] at e; cases e
  have st : ∀ b o, H' b = some o → TQ.back (cl.map (·.2)) H1 H' b = some o := fun b o e => by rw [back_out (out b o e)]; exact e
  refine ⟨fun b o e => st b o (w.sub b o e), fun a m e2 => ?_, w.ntb⟩
  by_cases ha : a = f
  · subst ha
    rw [mset_same] at e2
    cases e2
    obtain ⟨g, c', q1, q2, q3, _⟩ := w.mem a _ hf
    obtain ⟨_, _, _, _, _, q4⟩ := w1.mem a _ h1
    obtain ⟨hl, q5⟩ := q4 vs rfl
    refine ⟨g, c', st _ _ q1, st _ _ q2, q3, fun xs z => ?_⟩
    cases z
    refine ⟨hl, fun i y c x e1 e2 => ?_⟩
    obtain ⟨_, o, z, v, p1, p2, p3, p4⟩ := q5 i y c x e1 e2
    have hc : c ∈ cl.map (·.2) := List.mem_map.mpr ⟨(y, c), List.mem_of_getElem? e1, rfl⟩
    exact ⟨w.free (n c hc), o, z, v, by rw [back_in hc]; exact p1, p2, p3, Rep.mono e _ _ p4⟩
  · rw [mset_ne ha] at e2
    obtain ⟨g, k⟩ := w.mem a m e2
    obtain ⟨o, ho⟩ := k.some
    exact ⟨g, k.mono (Ext.refl G') (fun _ _ _ _ q => q) (fun b u e _ => st b u e) ((st a o ho).trans ho.symm)⟩
end
/-! ### defs that lean on it that no repr is under way -/
structure FnG (P : Program) (w : World) (K : PySem.W.Frag) (mg : Str → Option Value) (base : Heap) (k : Nat) (f : Addr) (fd : FuncData) (ps : List Str) (sp : SpQ) : Prop where
  len : ∀ vs H Q E, spQ K sp vs H Q E → vs.length = ps.length
  run : ∀ (A : Around) (outer : List Env) (s : Shared) (H : Hp) (args : Args) (us : List Value) (vs : List V) (Q : VK) (E : XK), A.guards = some [] → Room k A → Env0 P w K mg base A outer s H → BindsTo s fd args (ps.zip us) → Vals vs us → spQ K sp vs H Q E →
    codeAny (model P w) A (.call (.ref f) args) (CR (L2.CX P w) outer P w H s Q E) s
theorem FnG.of {P : Program} {w : World} {K : PySem.W.Frag} {mg : Str → Option Value} {base : Heap} {k : Nat} {f : Addr} {fd : FuncData} {ps : List Str} {sp : SpQ} (F : FnQ P w K mg base k f fd ps sp) : FnG P w K mg base k f fd ps sp := ⟨F.len, fun A outer s H args us vs Q E _ => F.run A outer s H args us vs Q E⟩
theorem okQG {P : Program} {w : World} {K : PySem.W.Frag} {mg : Str → Option Value} {base : Heap} {x qual : Str} {st : Stmt} {f : Addr} {fd : FuncData} {N ps : List Str} {k : Nat} {s : SpQ} (F : Fun K x qual st f fd) (S : FnScope N ps (defScope st)) (len : ∀ xs M Q E, s xs M Q E → xs.length = ps.length)
    (hbody : ∀ (A : Around) (outer : List Env) (s0 : Shared) (H0 : Hp) (E : XK), (A.deeper (envOfC qual (defScope st) s0.heap.objs.size f fd.code)).guards = some [] → Room k (A.deeper (envOfC qual (defScope st) s0.heap.objs.size f fd.code)) →
      ∃ t, QPSs (cxOf (L2.CX P w) P w K mg base N qual (defScope st) f fd.code A outer s0 H0 E) (fun cls d _ H => E cls d H) (defBody st) t ∧
        ∀ xs M Q0 E0, s xs M Q0 E0 → t { nx := fun _ M => Q0 .non M, rt := Q0, ex := fun c pl _ M => E0 c pl M } (startQ N xs) M) : FnG P w K mg base (k + 1) f fd ps s := by
  obtain ⟨oc, od, kV, doc, pm, an, cdv, ct, osl, rfl, lk, hcd⟩ := F.ex
  have hlen : ∀ vs H Q E, spQ K s vs H Q E → vs.length = ps.length := fun vs H Q E h => by
    obtain ⟨xs, M, G, Q0, E0, r, _, q, _⟩ := h
    rw [← r.length]
    exact len xs M Q0 E0 q
  refine ⟨hlen, fun A outer s0 H args us vs Q E hg hr e0 hb rv h => ?_⟩
  refine LamX.run_ofS lk hcd S hr e0 hb rv (hlen _ _ _ _ h) fun hr' => ?_
  obtain ⟨xs, M, G, Q0, E0, r, wf, q, L, LE⟩ := h
  obtain ⟨t, h1, h2⟩ := hbody A outer s0 H E hg hr'
  refine ⟨_, h1, startQ N xs, M, G, _, ⟨start_env r, wf⟩, h2 xs M Q0 E0 q, ?_⟩
  exact ⟨fun env' M' σ' H' G' e S q => L .non M' .non H' G' e S.wf rfl q, L, fun _ _ _ _ _ _ _ q => q, fun _ _ _ _ _ _ _ q => q, fun c pl env' M' d σ' H' G' e S x q => LE c pl M' d H' G' e S.wf x q⟩
/-- str(x), x a tuple of data -/
def cStrD : FC := fun xs M Q => ∃ ys d, xs = [.tup ys] ∧ dat M (.tup ys) = some d ∧ d.showable = true ∧ d.hasDict = false ∧ d.shown.length ≤ sizeLine ∧ d.depth ≤ 3 ∧ Q (.str d.shown) M
theorem cq_strD {X : Cx} (hg : X.A.guards = some []) (hu : X.A.units + 64 < cLine) : CallQ X (.type "str") cStrD := by
  intro pins s σ H vs us Q I r ⟨xs, M, G, Q0, rx, w, q, L⟩
  obtain ⟨ys, d, rfl, h1, h2, h3, h4, h5, q⟩ := q
  obtain ⟨v, rfl, r1⟩ := reps1 rx
  cases r with
  | cons rv rr =>
    cases rr
    obtain ⟨as, rd⟩ := Dp.reads I d v _ (dat_dp w h1 r1) rv
    obtain ⟨a, vs, rfl, _⟩ := r1
    cases rv
    exact str_of_reads rd h2 (PyData.noDict_hsm h3) hg (by omega) (fun _ _ e => e) (fun h' u tk hk => ⟨.str d.shown, H, I.kept (t' := tk) hk, ⟨u, rfl⟩, give L w (x := .str _) rfl q⟩) h4
/-! ### a def called, a lambda among its arguments -/
def valsAt (env : Sl) : List Nat → Option (List PV)
  | [] => some []
  | i :: is => match env[i]? with
    | some (some x) => (valsAt env is).map (x :: ·)
    | _ => none
theorem vals_at {env : Sl} : ∀ {ix : List Nat} {vs : List PV}, valsAt env ix = some vs → vs.length = ix.length ∧ ∀ (i : Nat) x, vs[i]? = some x → ∃ n, ix[i]? = some n ∧ env[n]? = some (some x)
  | [], vs, h => by cases h; exact ⟨rfl, fun i x e => by simp at e⟩
  | n :: is, vs, h => by
    unfold valsAt at h
    split at h
    · rename_i x hx
      cases q : valsAt env is with
      | none => rw [q] at h; cases h
      | some ws =>
        rw [q] at h
        cases h
        obtain ⟨l, r⟩ := vals_at q
        refine ⟨by simp [l], fun i y e => ?_⟩
        cases i with
        | zero => cases e; exact ⟨n, rfl, hx⟩
        | succ i => exact r i y e
    · cases h
def qCallL (s : SpQ) (L : LamT) (cl : List (Str × Addr)) (ix : List Nat) (t : QA) : QT := fun env M Q E => t env M (fun xs M1 => ∃ f vs, M1 f = some (.lam L cl none) ∧ valsAt env ix = some vs ∧
  s xs (mset M1 f (.lam L cl (some vs))) (fun x M2 => M2 f = some (.lam L cl (some vs)) ∧ Q x (calmL M2)) EF) E
theorem qe_callL {X : Cx} {W : WX} {pos p : Pos} {k : Nat} {f : Addr} {fd : FuncData} {ps : List Str} {s : SpQ} {x : Str} {e : Expr} {es : List Expr} {t : QA} (L : LamT) (ix : List Nat) (hgd : X.A.guards = some []) (F : FnG X.prog X.w X.K X.mg X.base k f fd ps s) (hr : Room k X.A) (hm : X.mg x = some (.ref f)) (hk : PySem.W.keepIn X.K (.ref f) = true) (hb : Binds X.K fd ps [])
    (ha : QPA X W (e :: es) t) (hfr : ∀ y ∈ L.sc.names, y.2 = .free → X.env.scope.names.lookup y.1 = some .cell) (hfn : ∀ y, X.fn y = true) (hix : ix.map (fun n => X.N[n]?) = (capN L).map some) (hg : Gl X x := by rfl)
    (hdb : (x == ("__debug__" : Str)) = false := by decide) (he : starEach (e :: es) X.env = (false, eval e X.env) :: starEach es X.env := by rfl) (hpl : (backTo pos (starEach es X.env)).any (·.1) = false := by rfl) :
    QE X W (.Call (.Name x p) (e :: es) [] pos) (qCallL s L (cloX X L) ix t) := by
  refine ⟨fun pins sh σ H Q I ⟨env, M, G, Q0, E0, S, q, LV, LE⟩ => wpAny_Call_Name_kw (ld_glob I hg hm ?_ hdb)⟩
  refine PySem.W.callWith_K (h₀ := X.base) I.ok.mod.kin hk (thn (ha.run pos pins sh σ H (fun vs H1 => ∃ xs M1 G1 f vals, Ext G G1 ∧ Wf X.K M1 H1 G1 ∧ Reps X.K G1 xs vs ∧ M1 f = some (.lam L (cloX X L) none) ∧ valsAt env ix = some vals ∧
    s xs (mset M1 f (.lam L (cloX X L) (some vals))) (fun x M2 => M2 f = some (.lam L (cloX X L) (some vals)) ∧ Q0 x (calmL M2)) EF) I ⟨env, M, G, _, E0, S, q, fun xs M1 vs H1 G1 e1 w1 r1 ⟨f, vals, q1, q2, q3⟩ => ⟨xs, M1, G1, f, vals, e1, w1, r1, q1, q2, q3⟩, LE⟩) fun us s1 hh => ?_) he hpl
  obtain ⟨vs, H1, I1, rv, xs, M1, G1, fl, vals, e1, w1, r1, q1, q2, q3⟩ := hh
  refine ⟨I1.kIn, ?_⟩
  have hff : FreeIn X.env.scope L := fun y hy e => .inl (hfr y hy e)
  have cfn : ∀ y c, X.env.cells.lookup y = some c → X.s_0.heap.objs.size ≤ c := fun y c e => I1.ok.cab y c (hfn y) e
  have clk : ∀ c ∈ (cloX X L).map (·.2), ∃ y, X.env.cells.lookup y = some c ∧ (y, c) ∈ cloX X L := fun c hc => by
    obtain ⟨p, hp, rfl⟩ := List.mem_map.mp hc
    exact ⟨p.1, clo_cell hff I1.ok hp, hp⟩
  have n : ∀ c ∈ (cloX X L).map (·.2), H1 c = none := fun c hc => by
    obtain ⟨y, e, _⟩ := clk c hc
    exact I1.freeC y c e
  have ex : ∀ c ∈ (cloX X L).map (·.2), ∃ o, s1.heap.get? c = some o := fun c hc => by
    obtain ⟨y, e, _⟩ := clk c hc
    obtain ⟨_, o, ho, _⟩ := I1.cell y c e
    exact ⟨o, ho⟩
  have nb : ∀ c ∈ (cloX X L).map (·.2), X.base.get? c = none := fun c hc => by
    obtain ⟨y, e, _⟩ := clk c hc
    exact Heap.get?_none_of_le (Nat.le_trans I1.ok.bsz (cfn y c e))
  have nf : ∀ c ∈ (cloX X L).map (·.2), c ∉ frs X.stack := fun c hc hm => by
    obtain ⟨y, e, _⟩ := clk c hc
    rcases List.mem_cons.mp (I1.stkSub c hm) with z | z
    · exact I1.cne y c e z
    · obtain ⟨_, o, ho, _⟩ := I1.ok.funs.mem z
      exact absurd (Nat.lt_of_lt_of_le (Heap.lt_size ho) (cfn y c e)) (Nat.lt_irrefl _)
  obtain ⟨vl, va⟩ := vals_at q2
  have ixl : ix.length = (cloX X L).length := by
    have z := congrArg List.length hix
    rw [List.length_map, List.length_map, ← clo_names X L, List.length_map] at z
    exact z
  have hv : ∀ (i : Nat) y c x, (cloX X L)[i]? = some (y, c) → vals[i]? = some x → ∃ (o : Obj) (z : Value) (v : V), s1.heap.get? c = some o ∧ o.data = .cell (some z) ∧ RelV v z ∧ Rep X.K G1 x v := fun i y c x ec ev => by
    obtain ⟨n, en, ee⟩ := va i x ev
    obtain ⟨v, hσ, rx⟩ := S.env.get n x ee
    have hN : X.N[n]? = some y := by
      have z := congrArg (fun l => l[i]?) hix
      simp only [List.getElem?_map, en, Option.map_some] at z
      rw [← clo_names X L, List.getElem?_map, ec] at z
      exact Option.some.inj z
    have hy : (y, c) ∈ cloX X L := List.mem_of_getElem? ec
    have hlk := clo_cell hff I1.ok hy
    have hk : X.env.scope.names.lookup y = some .cell := by
      rcases cloFrom_mem hy with z | ⟨z, _⟩
      · cases z
      · exact hfr _ z rfl
    obtain ⟨m, _, hl⟩ := I1.loc
    obtain ⟨u, ru, lk⟩ := hl n y v hN hσ (.inr (.inl hk))
    rcases lk with ⟨k1, _⟩ | ⟨_, c2, e2, o, ho, hd⟩
    · have k1 : X.env.scope.names.lookup y = some .local := k1
      rw [hk] at k1; cases k1
    · rw [hlk] at e2
      cases e2
      exact ⟨o, u, v, ho, hd, ru, Rep.mono e1 _ _ rx⟩
  have w2 := w1.still (vs := vals) q1 (by rw [vl, ixl]) n hv
  have sp2 : spQ X.K s vs (still s1.heap ((cloX X L).map (·.2)) H1) (fun v H' => Q v (moves ((cloX X L).map (·.2)) H')) (fun _ _ _ => False) :=
    ⟨xs, _, G1, _, EF, r1, w2, q3, fun x M' v H' G' e' w' r' ⟨p1, p2⟩ => LV x _ v _ G' (e1.trans e') (w'.calm p1) r' p2, EF_lift⟩
  have hl : us.length = ps.length := by rw [← rv.length]; exact F.len _ _ _ _ sp2
  have ez : us ++ [] = us := List.append_nil us
  have hb' := hb s1 us I1.kIn (by rw [ez]; exact hl)
  rw [ez] at hb'
  refine wpAny_call (codeAny_mono (F.run X.A X.stack s1 _ ⟨us, []⟩ us vs _ _ hgd hr (env0_still I1.env0 n ex nb nf) hb' rv sp2) fun r s' hq => ?_)
  match r, hq with
  | .error e, hq =>
    obtain ⟨_, _, _, _, _, _, _, _, _, _, _, _, z⟩ := hq
    exact z.elim
  | .ok (.ret u), hq =>
    obtain ⟨v, H', os, bare, un, ok', rv', q'⟩ := hq
    exact I1.after ⟨v, moves ((cloX X L).map (·.2)) H', os, bare, un_still n ex ok' un, hok_moves ok' (still_after ex un), rv', q'⟩
  | .ok .next, hq => exact hq.elim
  | .ok .brk, hq => exact hq.elim
  | .ok .cont, hq => exact hq.elim

/-! ### a lambda called -/
abbrev lamE (L : LamT) (loc f c' : Addr) (cl : List (Str × Addr)) : Env := PySem.W.envX L.q L.sc loc f (.ref c') cl
/-- the context of a lambda's body -/
def lamC (P : Program) (w : World) (K : PySem.W.Frag) (mg : Str → Option Value) (base : Heap) (N : List Str) (L : LamT) (f c' : Addr) (cl : List (Str × Addr)) (A : Around) (outer : List Env) (s : Shared) (H : Hp) (E : XK) : Cx where
  prog := P
  w := w
  K := K
  mg := mg
  base := base
  A := A.deeper (lamE L s.heap.objs.size f c' cl)
  N := N
  s_0 := s
  H_0 := H
  env := lamE L s.heap.objs.size f c' cl
  outer := outer
  stack := lamE L s.heap.objs.size f c' cl :: outer
  ex := []
  fn := fun _ => false
  calm := true
  pn := []
  xe := fun e s' => wpAny (model P w) (A.deeper (lamE L s.heap.objs.size f c' cl)) (leaving (lamE L s.heap.objs.size f c' cl) e) (fun _ s'' => L2.CX P w outer H s E e s'') (fun e' s'' => L2.CX P w outer H s E e' s'') s'
/-- a lambda's names -/
structure LamN (L : LamT) (ps : List Str) : Prop where
  kind : L.sc.kind = .function
  co : L.sc.isCoroutine = false
  gen : L.sc.isGenerator = false
  nocell : ∀ y ∈ L.sc.names, y.2 ≠ .cell
  par : ∀ x ∈ ps, L.sc.names.lookup x = some .local
  nd : ps.Nodup
  cap : ∀ y ∈ capN L, L.sc.names.lookup y = some .free
theorem lookup_nd {α : Type} {y : Str} {u : α} : ∀ {l : List (Str × α)}, (l.map (·.1)).Nodup → (y, u) ∈ l → l.lookup y = some u
  | (n, v) :: r, hn, h => by
    rw [List.map_cons, List.nodup_cons] at hn
    rw [List.lookup_cons]
    rcases List.mem_cons.mp h with e | h
    · cases e
      simp
    · have : (y == n) = false := by
        have : ¬ y = n := fun z => hn.1 (by rw [← z]; exact List.mem_map.mpr ⟨_, h, rfl⟩)
        simpa using this
      rw [this]
      exact lookup_nd hn.2 h
section
variable {P : Program} {w : World} {K : PySem.W.Frag} {mg : Str → Option Value} {base : Heap} {A : Around} {outer : List Env} {s : Shared} {H : Hp} {E : XK} {L : LamT} {ps : List Str} {f c' : Addr} {cl : List (Str × Addr)}
theorem lam_start {vs cvs : List V} {us : List Value} {h₁ : Heap} {tk : Nat} (e0 : Env0 P w K mg base A outer s H) (hd : A.handled = none) (n : LamN L ps) (C : ClOk L cl) (hl : vs.length = ps.length) (rv : Vals vs us) (hcl : cvs.length = cl.length)
    (hc : ∀ (i : Nat) y c v, cl[i]? = some (y, c) → cvs[i]? = some v → H c = none ∧ ∃ (o : Obj) (z : Value), s.heap.get? c = some o ∧ o.data = .cell (some z) ∧ RelV v z)
    (hns : h₁.Ns s.heap.objs.size fun y => (ps.zip us).reverse.lookup y) (kp : ∀ b o, s.heap.get? b = some o → h₁.get? b = some o) :
    Inv (lamC P w K mg base (ps ++ capN L) L f c' cl A outer s H E) [] ((vs ++ cvs).map some) H { s with heap := h₁, toks := tk } := by
  have noA : ∀ b : Addr, b ∉ (lamC P w K mg base (ps ++ capN L) L f c' cl A outer s H E).ex := fun b z => absurd (show b ∈ ([] : List Addr) from z) (by simp)
  have at_ : ∀ y c, cl.lookup y = some c → ∃ (i : Nat) (v : V), cl[i]? = some (y, c) ∧ cvs[i]? = some v := fun y c e => by
    obtain ⟨i, hi, q⟩ := List.getElem_of_mem (PySem.mem_of_lookup e)
    exact ⟨i, cvs[i], by rw [List.getElem?_eq_getElem hi, q], List.getElem?_eq_getElem (by omega)⟩
  have cellH : ∀ y c, cl.lookup y = some c → H c = none := fun y c e => by
    obtain ⟨i, v, e1, e2⟩ := at_ y c e
    exact (hc i y c v e1 e2).1
  refine ⟨⟨e0.mod, n.kind, rfl, rfl, Nat.le_refl _, fun y z c e1 e2 => C.inj y z c e1 e2, fun y hy => ?_, fun y c z _ => ?_, fun _ => hd, Around.frames_deeper e0.frames, .inr ⟨rfl, rfl⟩, fun b z => absurd z (noA b), e0.bs, e0.bsz, fun b _ _ => noA b,
      fun b z => absurd z (noA b), e0.funs, e0.frf⟩,
    rfl, e0.bare, Un.kept kp, ⟨_, hns, fun i y v e1 e2 e3 => ?_⟩, fun y c e => ?_, e0.hok.fresh (Nat.le_refl _), fun y c e => ?_, fun q hq => absurd (show q ∈ ([] : List (Addr × Obj)) ++ [] from hq) (by simp), e0.hok.kept kp, ?_⟩
  · have hy : L.sc.names.lookup y = some .cell ∨ L.sc.names.lookup y = some .free := hy
    rcases hy with hy | hy
    · exact absurd rfl (n.nocell _ (PySem.mem_of_lookup hy))
    · exact C.has _ (PySem.mem_of_lookup hy) rfl
  · have z : false = true := z
    cases z
  · have e1 : (ps ++ capN L)[i]? = some y := e1
    by_cases hi : i < ps.length
    · rw [List.getElem?_append_left hi] at e1
      rw [List.getElem?_map, List.getElem?_append_left (by omega)] at e2
      cases hv : vs[i]? with
      | none => rw [hv] at e2; cases e2
      | some v' =>
        rw [hv] at e2
        cases e2
        obtain ⟨u, hu, ru⟩ := rv.get hv
        refine ⟨u, ru, .inl ⟨n.par y (List.mem_of_getElem? e1), ?_⟩⟩
        have hm : (y, u) ∈ ps.zip us := List.mem_of_getElem? (i := i) (by rw [List.getElem?_zip_eq_some]; exact ⟨e1, hu⟩)
        have hnd : (((ps.zip us).reverse).map (·.1)).Nodup := by
          rw [List.map_reverse, List.map_fst_zip (by rw [← rv.length]; omega)]
          exact (List.reverse_perm ps).nodup_iff.mpr n.nd
        exact lookup_nd hnd (List.mem_reverse.mpr hm)
    · rw [List.getElem?_append_right (by omega)] at e1
      rw [List.getElem?_map, List.getElem?_append_right (by omega)] at e2
      have hy := n.cap y (List.mem_of_getElem? e1)
      rw [← C.nm, List.getElem?_map] at e1
      cases hv : cvs[i - vs.length]? with
      | none => rw [hv] at e2; cases e2
      | some v' =>
        rw [hv] at e2
        cases e2
        cases hp : cl[i - ps.length]? with
        | none => rw [hp] at e1; cases e1
        | some p =>
          rw [hp] at e1
          obtain ⟨y', c⟩ := p
          obtain rfl : y' = y := Option.some.inj e1
          obtain ⟨_, o, z, h1, h2, h3⟩ := hc (i - ps.length) y' c v hp (by rw [← hl]; exact hv)
          obtain ⟨c2, hc2⟩ := C.has (y', .free) (PySem.mem_of_lookup hy) rfl
          have hcc : c2 = c := by
            have hm : (y', c) ∈ cl := List.mem_of_getElem? hp
            exact C.one y' c2 c (PySem.mem_of_lookup hc2) hm
          subst hcc
          exact ⟨z, h3, .inr ⟨.inr hy, c2, hc2, o, kp _ _ h1, h2⟩⟩
  · obtain ⟨i, v, e1, e2⟩ := at_ y c e
    obtain ⟨_, o, z, h1, h2, _⟩ := hc i y c v e1 e2
    exact ⟨some z, o, kp _ _ h1, h2⟩
  · exact cellH y c e
  · show ((vs ++ cvs).map some).length = (ps ++ capN L).length
    rw [List.length_map, List.length_append, List.length_append, hl, hcl, ← C.nm, List.length_map]
end

/-- a lambda keeps its promise, told of its arguments and of what it captured -/
structure LamK (P : Program) (w : World) (K : PySem.W.Frag) (mg : Str → Option Value) (base : Heap) (k : Nat) (L : LamT) (ps N : List Str) (sp : SpQ) : Prop where
  nm : LamN L ps
  names : N = ps ++ capN L
  bind : ∀ (us : List Value) (cl : List (Str × Addr)) (pm cv ctv : Value), us.length = ps.length → bindArgs (PySem.W.kla_fn "<lambda>" L.q L.pa L.body L.sc cl pm cv ctv) ⟨us, []⟩ = pure (ps.zip us)
  body : ∀ (cl : List (Str × Addr)) (f c' : Addr) (A : Around) (outer : List Env) (s : Shared) (H : Hp) (E : XK), Room k (A.deeper (lamE L s.heap.objs.size f c' cl)) →
    ∃ t, QE (lamC P w K mg base N L f c' cl A outer s H E) (fun cls d _ H => E cls d H) L.body t ∧ ∀ xs M Q E, sp xs M Q E → t (startQ N xs) M Q E
def qAct (i : Nat) (L : LamT) (sp : SpQ) (ps : List Str) (ta : QA) : QT := fun env M Q E => ∃ f cl vs, env[i]? = some (some (.ref f)) ∧ M f = some (.lam L cl (some vs)) ∧
  ta env M (fun xs M1 => M1 f = some (.lam L cl (some vs)) ∧ xs.length = ps.length ∧ sp (xs ++ vs) (calmL M1)
    (fun y M2 => M2 f = some (.lam L cl none) ∧ Q y (mset M2 f (.lam L cl (some vs)))) (fun c pl M2 => M2 f = some (.lam L cl none) ∧ E c pl (mset M2 f (.lam L cl (some vs))))) E
section
variable {P : Program} {w : World} {K : PySem.W.Frag} {mg : Str → Option Value} {base : Heap} {A : Around} {outer : List Env} {s : Shared} {H G : Hp} {E : XK} {L : LamT} {ps : List Str} {f : Addr} {cl : List (Str × Addr)} {k : Nat} {N : List Str} {sp : SpQ}
theorem run_lam (B : LamK P w K mg base k L ps N sp) (hr : Room (k + 1) A) (e0 : Env0 P w K mg base A outer s H) {M1 : Mem} {vs xs : List PV} {ws : List V} {us : List Value} {Q : VK} {Q0 : PK} {E0 : EK} (wf : Wf K M1 H G) (hf : M1 f = some (.lam L cl (some vs)))
    (hx : xs.length = ps.length) (rx : Reps K G xs ws) (rw' : Vals ws us)
    (h : sp (xs ++ vs) (calmL M1) (fun y M2 => M2 f = some (.lam L cl none) ∧ Q0 y (mset M2 f (.lam L cl (some vs)))) (fun c pl M2 => M2 f = some (.lam L cl none) ∧ E0 c pl (mset M2 f (.lam L cl (some vs)))))
    (LV : LiftV K G Q0 Q) (LE : LiftE K G E0 E) : codeAny (model P w) A (.call (.ref f) ⟨us, []⟩) (CR (L2.CX P w) outer P w H s Q E) s := by
  obtain ⟨_, c', hO, hC, C, hv⟩ := wf.mem f _ hf
  obtain ⟨hvl, hcells⟩ := hv vs rfl
  have hst : ∀ c ∈ cl.map (·.2), ∃ o, H c = some (stillO o) := fun c hc => (lam_cells wf hf c hc).2
  have e1 := env0_moves (cs := cl.map (·.2)) e0 hst
  have wc := wf.calm hf
  obtain ⟨⟨pm, ctv, ho⟩, _, _⟩ := e0.hok f _ hO
  obtain ⟨⟨oc, ov, ot, h1, h2, h3⟩, _, _⟩ := e0.hok c' _ hC
  have lim : s.heap.NoLimit := e0.mod.nolimit.keeps fun b o e => (e0.bs b o e).1
  have nfr : ∀ c ∈ cl.map (·.2), c ∉ frs outer := fun c hc z => by
    obtain ⟨o, q⟩ := hst c hc
    rw [e0.frf c z] at q; cases q
  -- the cells' values
  have cvs : ∃ cvs : List V, cvs.length = cl.length ∧ Reps K G vs cvs ∧ ∀ (i : Nat) y c v, cl[i]? = some (y, c) → cvs[i]? = some v → moves (cl.map (·.2)) H c = none ∧ ∃ (o : Obj) (z : Value), s.heap.get? c = some o ∧ o.data = .cell (some z) ∧ RelV v z := by
    have key : ∀ (l : List (Str × Addr)) (xs : List PV), xs.length = l.length → (∀ (i : Nat) y c x, l[i]? = some (y, c) → xs[i]? = some x → CellOk K G H c x) → (∀ p ∈ l, p.2 ∈ cl.map (·.2)) →
        ∃ cvs : List V, cvs.length = l.length ∧ Reps K G xs cvs ∧ ∀ (i : Nat) y c v, l[i]? = some (y, c) → cvs[i]? = some v → moves (cl.map (·.2)) H c = none ∧ ∃ (o : Obj) (z : Value), s.heap.get? c = some o ∧ o.data = .cell (some z) ∧ RelV v z := by
      intro l
      induction l with
      | nil =>
        intro xs hl _ _
        cases xs with
        | nil => exact ⟨[], rfl, Reps.nil, fun i y c v e _ => by simp at e⟩
        | cons x xs => cases hl
      | cons p l ih =>
        intro xs hl hc hm
        cases xs with
        | nil => cases hl
        | cons x xs =>
          obtain ⟨y, c⟩ := p
          obtain ⟨_, o, z, v, q1, q2, q3, q4⟩ := hc 0 y c x rfl rfl
          obtain ⟨cvs, r1, r2, r3⟩ := ih xs (by simpa using hl) (fun i y c x e1 e2 => hc (i + 1) y c x e1 e2) (fun p hp => hm p (List.mem_cons_of_mem _ hp))
          refine ⟨v :: cvs, by simp [r1], Reps.cons q4 r2, fun i y' c2 v2 e1 e2 => ?_⟩
          cases i with
          | zero =>
            cases e1
            cases e2
            have hin : c ∈ cl.map (·.2) := hm (y, c) List.mem_cons_self
            exact ⟨moves_in hin, o, z, (e0.hok c _ q1).1, q2, q3⟩
          | succ i => exact r3 i y' c2 v2 e1 e2
    exact key cl vs hvl hcells fun p hp => List.mem_map.mpr ⟨p, hp, rfl⟩
  obtain ⟨cvs, hcl, rc, hcv⟩ := cvs
  have hl : ws.length = ps.length := by rw [← rx.length]; exact hx
  refine PySem.W.kla_callFunE hr.depth ho rfl B.nm.co B.nm.gen rfl ⟨c', oc, ov, ot, rfl, h1, h2, h3⟩ ?_
  rw [B.bind us cl pm (.ref c') ctv (by rw [← rw'.length]; exact hl)]
  refine wpAny_pure (wpAny_newFunctionEnv B.nm.nocell (fun y hy => B.nm.par _ (List.of_mem_zip hy).1) (fun h₁ hns hsb => ⟨lim.fresh _ hsb, ?_⟩) B.nm.kind)
  show codeAny _ _ (.expr L.body (lamE L s.heap.objs.size f c' cl)) _ _
  have kp : ∀ b o, s.heap.get? b = some o → h₁.get? b = some o := fun b o e => hsb.extBut b o (Nat.ne_of_lt (Heap.lt_size e)) (Heap.get?_push_of_some _ e)
  have J : Inv (lamC P w K mg base N L f c' cl A outer s (moves (cl.map (·.2)) H) (fun cls d H' => (∀ c ∈ cl.map (·.2), H' c = none) → E cls d (back (cl.map (·.2)) H H'))) [] ((ws ++ cvs).map some) (moves (cl.map (·.2)) H) { s with heap := h₁, toks := s.toks + (ps.zip us).length } :=
    by
    rw [B.names]
    exact lam_start e1 hr.hd B.nm C hl rw' hcl hcv hns kp
  have S : Sim K (startQ N (xs ++ vs)) (calmL M1) G ((ws ++ cvs).map some) (moves (cl.map (·.2)) H) := by
    have rr := rx.append rc
    have es : startQ N (xs ++ vs) = (xs ++ vs).map some := by
      have z : N.length = (xs ++ vs).length := by rw [B.names, List.length_append, List.length_append, hx, hvl, ← C.nm, List.length_map]
      unfold startQ
      rw [z, Nat.sub_self, List.replicate_zero, List.append_nil]
    rw [es]
    refine ⟨⟨by rw [List.length_map, List.length_map, rr.length], fun i x e => ?_⟩, wc⟩
    rw [List.getElem?_map] at e ⊢
    cases hi : (xs ++ vs)[i]? with
    | none => rw [hi] at e; cases e
    | some x' =>
      rw [hi] at e
      cases e
      obtain ⟨v, e1, e2⟩ := rr.get hi
      exact ⟨v, by rw [e1]; rfl, e2⟩
  obtain ⟨t, ht, himp⟩ := B.body cl f c' A outer s (moves (cl.map (·.2)) H) (fun cls d H' => (∀ c ∈ cl.map (·.2), H' c = none) → E cls d (back (cl.map (·.2)) H H')) (hr.deeper _)
  have run := ht.run [] _ _ _ (fun v H' => (∀ c ∈ cl.map (·.2), H' c = none) → Q v (back (cl.map (·.2)) H H')) J ⟨_, calmL M1, G, _, _, S, himp _ _ _ _ h, fun y M2 v H' G' e w2 r2 q2 => ?_, fun c pl M2 d H' G' e w2 r2 q2 => ?_⟩
  · refine PySem.W.kla_codeExpr (wpAny_mono run (fun v s' hq => ?_) fun e s' hq => ?_)
    · obtain ⟨w', H', J', rv', q⟩ := hq
      have ub : Un (frs outer) [] (moves (cl.map (·.2)) H) H' s.heap s'.heap := J'.base
      have hz : ∀ c ∈ cl.map (·.2), H' c = none := fun c hc => by
        obtain ⟨o, q⟩ := hst c hc
        exact ub.free c o (e0.hok c _ q).1 (moves_in hc) (by simp)
      have hb : ∀ c ∈ cl.map (·.2), ∃ o, H c = some (stillO o) ∧ s'.heap.get? c = some o := fun c hc => by
        obtain ⟨o, q⟩ := hst c hc
        exact ⟨o, q, ub.keep c o (e0.hok c _ q).1 (moves_in hc) (nfr c hc) (by simp)⟩
      exact ⟨w', back (cl.map (·.2)) H H', J'.os, J'.bare, un_back hst ub, hok_back J'.hok hb hz, rv', q hz⟩
    · refine wpAny_mono hq (fun _ s'' z => ?_) fun e' s'' z => ?_
      all_goals
        obtain ⟨a, B', H', cls, d, rfl, fl, ok', ub, na, os, ag, hE⟩ := z
        have hb : ∀ c ∈ cl.map (·.2), ∃ o, H c = some (stillO o) ∧ B'.get? c = some o := fun c hc => by
          obtain ⟨o, q⟩ := hst c hc
          exact ⟨o, q, ub.keep c o (e0.hok c _ q).1 (moves_in hc) (nfr c hc)⟩
        have hz : ∀ c ∈ cl.map (·.2), H' c = none := fun c hc => by
          obtain ⟨o, q⟩ := hst c hc
          exact ub.free c o (e0.hok c _ q).1 (moves_in hc)
        have ha : a ∉ cl.map (·.2) := fun z => by
          obtain ⟨o, _, q⟩ := hb a z
          rw [fl.2.1] at q; cases q
        exact ⟨a, B', back (cl.map (·.2)) H H', cls, d, rfl, fl, hok_back ok' hb hz, ub_back hst ub, by rw [back_out ha]; exact na, os, ag, hE hz⟩
  · exact fun hz => LV y _ v _ G' e (wf.back hf w2 e q2.1 hz) r2 q2.2
  · exact fun hz => LE c pl _ d _ G' e (wf.back hf w2 e q2.1 hz) r2 q2.2
end
theorem qe_act {X : Cx} {W : WX} {i : Nat} {x : Str} {p pos : Pos} {e : Expr} {es : List Expr} {k : Nat} {L : LamT} {ps N : List Str} {sp : SpQ} {ta : QA} (B : LamK X.prog X.w X.K X.mg X.base k L ps N sp) (hr : Room (k + 1) X.A) (tk : Takes X W) (ha : QPA X W (e :: es) ta) (hN : X.N[i]? = some x := by rfl)
    (hv : Vis X.env.scope x := by first | exact Or.inl rfl | exact Or.inr (Or.inl rfl) | exact Or.inr (Or.inr rfl)) (hd : (x == ("__debug__" : Str)) = false := by decide) (hcd : (x == ("__classdict__" : Str)) = false := by decide)
    (he : starEach (e :: es) X.env = (false, eval e X.env) :: starEach es X.env := by rfl) (hpl : (backTo pos (starEach es X.env)).any (·.1) = false := by rfl) : QE X W (.Call (.Name x p) (e :: es) [] pos) (qAct i L sp ps ta) := by
  refine ⟨fun pins s σ H Q I ⟨env, M, G, Q0, E0, S, ⟨f, cl, vs, hi, hf, q⟩, LV, LE⟩ => ?_⟩
  obtain ⟨v, hσ, rv⟩ := S.env.get _ _ hi
  obtain rfl : v = .ref f := rv
  refine wpAny_Call_Name_kw (thn ((pe_var (pos := p) (i := i) hN hv hd hcd).run pins s σ H (fun v H1 => v = .ref f ∧ H1 = H) I ⟨.ref f, hσ, rfl, rfl⟩) fun u s1 ⟨v, H1, I1, r1, q1⟩ => ?_)
  obtain ⟨rfl, rfl⟩ := q1
  obtain rfl : u = Value.ref f := r1
  have fnAt : ∀ {M : Mem} {H G : Hp} {s : Shared}, Wf X.K M H G → M f = some (.lam L cl (some vs)) → HOk X.prog X.w H s.heap → PySem.W.FnAt f s.heap := fun {M H G s} w h ok => by
    obtain ⟨_, c', hO, _⟩ := w.mem f _ h
    obtain ⟨⟨pm, ctv, ho⟩, _, _⟩ := ok f _ hO
    exact ⟨_, _, _, _, ho⟩
  refine PySem.W.callWith_F (first := []) (fnAt S.wf hf I1.hok) (thn (ha.run pos pins s1 σ H1 (fun ws H2 => ∃ xs M1 G1, Ext G G1 ∧ Wf X.K M1 H2 G1 ∧ Reps X.K G1 xs ws ∧ M1 f = some (.lam L cl (some vs)) ∧ xs.length = ps.length ∧ sp (xs ++ vs) (calmL M1)
    (fun y M2 => M2 f = some (.lam L cl none) ∧ Q0 y (mset M2 f (.lam L cl (some vs)))) (fun c pl M2 => M2 f = some (.lam L cl none) ∧ E0 c pl (mset M2 f (.lam L cl (some vs))))) I1 ⟨env, M, G, _, E0, S, q, fun xs M1 ws H2 G1 e1 w1 r2 ⟨q1, q2, q3⟩ => ⟨xs, M1, G1, e1, w1, r2, q1, q2, q3⟩, LE⟩) fun us s2 hh => ?_) he hpl
  obtain ⟨ws, H2, I2, r2, xs, M1, G1, e1, w1, rx, q1, q2, q3⟩ := hh
  refine ⟨fnAt w1 q1 I2.hok, ?_⟩
  refine wpAny_call (codeAny_mono (run_lam B hr I2.env0 w1 q1 q2 rx r2 q3 (LV.mono e1) (LE.mono e1)) fun r s' hq => ?_)
  match r, hq with
  | .error e, hq => exact passAt tk σ pins H2 s2 e s' I2 hq
  | .ok (.ret u), hq => exact I2.after hq
  | .ok .next, hq => exact hq.elim
  | .ok .brk, hq => exact hq.elim
  | .ok .cont, hq => exact hq.elim
theorem qe_act0 {X : Cx} {W : WX} {i : Nat} {x : Str} {p pos : Pos} {k : Nat} {L : LamT} {N : List Str} {sp : SpQ} (B : LamK X.prog X.w X.K X.mg X.base k L [] N sp) (hr : Room (k + 1) X.A) (tk : Takes X W) (hN : X.N[i]? = some x := by rfl)
    (hv : Vis X.env.scope x := by first | exact Or.inl rfl | exact Or.inr (Or.inl rfl) | exact Or.inr (Or.inr rfl)) (hd : (x == ("__debug__" : Str)) = false := by decide) (hcd : (x == ("__classdict__" : Str)) = false := by decide) : QE X W (.Call (.Name x p) [] [] pos) (qAct i L sp [] qNil) := by
  refine ⟨fun pins s σ H Q I ⟨env, M, G, Q0, E0, S, ⟨f, cl, vs, hi, hf, q1, q2, q3⟩, LV, LE⟩ => ?_⟩
  obtain ⟨v, hσ, rv⟩ := S.env.get _ _ hi
  obtain rfl : v = .ref f := rv
  refine wpAny_Call_Name_kw (thn ((pe_var (pos := p) (i := i) hN hv hd hcd).run pins s σ H (fun v H1 => v = .ref f ∧ H1 = H) I ⟨.ref f, hσ, rfl, rfl⟩) fun u s1 ⟨v, H1, I1, r1, q4⟩ => ?_)
  obtain ⟨rfl, rfl⟩ := q4
  obtain rfl : u = Value.ref f := r1
  obtain ⟨_, c', hO, _⟩ := S.wf.mem f _ hf
  obtain ⟨⟨pm, ctv, ho⟩, _, _⟩ := I1.hok f _ hO
  refine PySem.W.callWith_F0 ⟨_, _, _, _, ho⟩ ?_
  refine wpAny_call (codeAny_mono (run_lam (xs := []) (ws := []) (us := []) B hr I1.env0 S.wf hf rfl Reps.nil .nil q3 LV LE) fun r s' hq => ?_)
  match r, hq with
  | .error e, hq => exact passAt tk σ pins H1 s1 e s' I1 hq
  | .ok (.ret u), hq => exact I1.after hq
  | .ok .next, hq => exact hq.elim
  | .ok .brk, hq => exact hq.elim
  | .ok .cont, hq => exact hq.elim
/-! ### a def that makes lambdas: its code object is told -/
theorem okQC {P : Program} {w : World} {K : PySem.W.Frag} {mg : Str → Option Value} {base : Heap} {x qual : Str} {st : Stmt} {f : Addr} {fd : FuncData} {N ps : List Str} {k : Nat} {s : SpQ} (F : Fun K x qual st f fd) (S : FnScope N ps (defScope st)) (len : ∀ xs M Q E, s xs M Q E → xs.length = ps.length)
    (hbody : ∀ (A : Around) (outer : List Env) (s0 : Shared) (H0 : Hp) (E : XK), Room k (A.deeper (envOfC qual (defScope st) s0.heap.objs.size f fd.code)) →
      ∃ t, QPSs (cxOf (L2.CX P w) P w K mg base N qual (defScope st) f fd.code A outer s0 H0 E) (fun cls d _ H => E cls d H) (defBody st) t ∧
        ∀ xs M Q0 E0, s xs M Q0 E0 → t { nx := fun _ M => Q0 .non M, rt := Q0, ex := fun c pl _ M => E0 c pl M } (startQ N xs) M) : FnQ P w K mg base (k + 1) f fd ps s := by
  obtain ⟨oc, od, kV, doc, pm, an, cdv, ct, osl, rfl, lk, hcd⟩ := F.ex
  refine fn_of lk hcd S (fun vs H Q E h => ?_) (fun A outer s0 H vs Q E hr h => ?_)
  · obtain ⟨xs, M, G, Q0, E0, r, _, q, _⟩ := h
    rw [← r.length]
    exact len xs M Q0 E0 q
  · obtain ⟨xs, M, G, Q0, E0, r, w, q, L, LE⟩ := h
    obtain ⟨t, h1, h2⟩ := hbody A outer s0 H E hr
    refine ⟨_, h1, startQ N xs, M, G, _, ⟨start_env r, w⟩, h2 xs M Q0 E0 q, ?_⟩
    exact ⟨fun env' M' σ' H' G' e S q => L .non M' .non H' G' e S.wf rfl q, L, fun _ _ _ _ _ _ _ q => q, fun _ _ _ _ _ _ _ q => q, fun c pl env' M' d σ' H' G' e S x q => LE c pl M' d H' G' e S.wf x q⟩
/-- what is known of the lambdas' tables over a base -/
class TabsIn (base : Heap) (mg : Str → Option Value) (cs : List (Addr × Addr)) : Prop where
  tb : ∀ p ∈ cs, LamX.TabB base mg p.1 p.2
/-! ### words of a lambda in a text -/
def lamT (q : Str) : Expr → LamT
  | .Lambda pa b sc _ => ⟨q, pa, b, sc⟩
  | e => ⟨q, { posonlyargs := [], args := [], vararg := none, kwonlyargs := [], kw_defaults := [], kwarg := none, defaults := [] }, e, { kind := .function, names := [], isGenerator := false, isCoroutine := false, more := [] }⟩
def subS : Stmt → List Stmt
  | .If _ b c _ => b ++ c
  | .For _ _ b c _ => b ++ c
  | .While _ b c _ => b ++ c
  | _ => []
def subE : Stmt → List Expr
  | .If t _ _ _ => [t]
  | .For t i _ _ _ => [t, i]
  | .While t _ _ _ => [t]
  | .Assign ts v _ => v :: ts
  | .Return (some v) _ => [v]
  | .Expr v _ => [v]
  | _ => []
def subX : Expr → List Expr
  | .Call f as _ _ => f :: as
  | .UnaryOp _ x _ => [x]
  | .BoolOp _ xs _ => xs
  | .Compare a _ bs _ => a :: bs
  | .BinOp a _ b _ => [a, b]
  | e => [e]
def freeB (sc : Scope) (L : LamT) : Bool := L.sc.names.all fun y => !decide (y.2 = .free) || decide (sc.names.lookup y.1 = some .cell)
theorem freeB_ok {sc : Scope} {L : LamT} (h : freeB sc L = true) : ∀ y ∈ L.sc.names, y.2 = .free → sc.names.lookup y.1 = some .cell := fun y hy e => by
  have := List.all_eq_true.mp h y hy
  simp only [Bool.or_eq_true, Bool.not_eq_true', decide_eq_true_eq, decide_eq_false_iff_not] at this
  rcases this with z | z
  · exact absurd e z
  · exact z
theorem freeB_in {sc : Scope} {L : LamT} (h : freeB sc L = true) : FreeIn sc L := fun y hy e => .inl (freeB_ok h y hy e)
def sLawT (q : Str) (P : Addr) : SpQ := fun xs M Q _ => ∃ ns, xs = [.scr ns] ∧ ns.length ≤ 63 ∧ M P = some (.tab q) ∧ ∀ M', Q (.bl true) M'
/-! ### one of two readings -/
def qAlt (t1 t2 : QT) : QT := fun env M Q E => t1 env M Q E ∨ t2 env M Q E
theorem qe_alt {X : Cx} {W : WX} {e : Expr} {t1 t2 : QT} (h1 : QE X W e t1) (h2 : QE X W e t2) : QE X W e (qAlt t1 t2) :=
  ⟨fun pins s σ H Q I ⟨env, M, G, Q0, E0, S, q, LV, LE⟩ => q.elim (fun q => h1.run pins s σ H Q I ⟨env, M, G, Q0, E0, S, q, LV, LE⟩) (fun q => h2.run pins s σ H Q I ⟨env, M, G, Q0, E0, S, q, LV, LE⟩)⟩
/-! ### for over the signs of a str -/
def sForS (t : QT) (g : QTG) (b : QS) : QS := fun D env M => t env M (fun x M1 => match x with
  | .str s => forI s.cps.size (fun i x => ∃ c, s.cps[i]? = some c ∧ x = .str ⟨#[c]⟩) (fun _ => True) g b D env M1
  | _ => False) (exE D env)
section
variable {X : Cx} {W : WX} {pos : Pos}
theorem qs_forS {tg e : Expr} {body : List Stmt} {t : QT} {g : QTG} {b : QS} (po : PassesOwn (model X.prog X.w) X.A X.env X.xe) (hc : X.calm = true) (he : QE X W e t) (hgt : QPG X tg g) (hb : QPSs X W body b) (hfs : ∀ x, foldedSetIterable e X.env x = pure x := by intro _; rfl) :
    QPS X W (.For tg e body [] pos) (sForS t g b) :=
  (ps_for po hc (pi_str he) hgt hb hfs).imp fun D σ H ⟨env, M, G, D0, S, q, L⟩ => by
    refine ⟨env, M, G, _, _, S, q, fun x M1 v H1 G1 e1 w1 r1 q1 => ?_, liftX_E S.env L.ex⟩
    dsimp only at q1
    split at q1
    · rename_i s
      cases r1
      obtain ⟨I, i0, _, hs, hd⟩ := q1
      refine ⟨s, rfl, fun i m σ H => m = s.cps.size - i ∧ i ≤ s.cps.size ∧ PvQ X.K G1 I i σ H, ⟨s.cps.size, by omega, Nat.zero_le _, env, M1, G1, Ext.refl _, S.to e1 w1, i0⟩, fun i m σ H ⟨hm', hi, env, M, G2, e2, S2, q2⟩ => ?_⟩
      by_cases hn : i = s.cps.size
      · subst hn
        exact .inl ⟨Nat.le_refl _, L.nx env M σ H G2 (e1.trans e2) S2 (hd env M q2)⟩
      · have hi2 : i < s.cps.size := by omega
        refine .inr ⟨hi2, PvQ X.K G1 I (i + 1), fun σ' H' h => ⟨m - 1, by omega, by omega, by omega, h⟩, fun x H' hy => ?_⟩
        obtain ⟨rfl, c, hc, rfl⟩ := hy
        exact turnQ (L.mono e1) e2 S2 (x := .str ⟨#[c]⟩) rfl (hs i _ env M hi2 ⟨c, hc, rfl⟩ q2)
    · exact q1.elim
end
end TQ
namespace TN
open PySem PySem.Spec PyProof.Rows L2 TQ TM
/-! ### the readings, for the walk -/
section
variable {env : Sl} {M : Mem} {Q : PK} {E : EK}
def actP (sp : SpQ) (f : Addr) (L : LamT) (cl : List (Str × Addr)) (vs xs : List PV) (n : Nat) (M : Mem) [Q : Box PK] [E : Box EK] : Prop := M f = some (.lam L cl (some vs)) ∧ xs.length = n ∧ sp (xs ++ vs) (calmL M)
    (fun y M2 => M2 f = some (.lam L cl none) ∧ Q.v y (mset M2 f (.lam L cl (some vs)))) (fun c pl M2 => M2 f = some (.lam L cl none) ∧ E.v c pl (mset M2 f (.lam L cl (some vs))))
def actB (i : Nat) (L : LamT) (sp : SpQ) (n : Nat) (ta : QA) (env : Sl) (M : Mem) [Q : Box PK] [E : Box EK] : Prop := ∃ f cl vs, env[i]? = some (some (.ref f)) ∧ M f = some (.lam L cl (some vs)) ∧ ta env M (fun xs M1 => @actP sp f L cl vs xs n M1 Q E) E.v
theorem e_qAct {i : Nat} {L : LamT} {sp : SpQ} {ps : List Str} {ta : QA} : qAct i L sp ps ta env M Q E = @actB i L sp ps.length ta env M ⟨Q⟩ ⟨E⟩ := rfl
def lamB (P : Addr) (L : LamT) (cl : List (Str × Addr)) (M : Mem) [Q : Box PK] : Prop := M P = some (.tab L.q) ∧ ∀ f, M f = none → Q.v (.ref f) (mset M f (.lam L cl none))
theorem e_qLam {P : Addr} {L : LamT} {cl : List (Str × Addr)} : qLam P L cl env M Q E = @lamB P L cl M ⟨Q⟩ := rfl
def calB (s : SpQ) (L : LamT) (cl : List (Str × Addr)) (vs : Option (List PV)) (xs : List PV) (M : Mem) [Q : Box PK] : Prop := ∃ f ws, M f = some (.lam L cl none) ∧ vs = some ws ∧ s xs (mset M f (.lam L cl (some ws))) (fun x M2 => M2 f = some (.lam L cl (some ws)) ∧ Q.v x (calmL M2)) EF
theorem e_qCallL {s : SpQ} {L : LamT} {cl : List (Str × Addr)} {ix : List Nat} {t : QA} : qCallL s L cl ix t env M Q E = t env M (fun xs M1 => @calB s L cl (valsAt env ix) xs M1 ⟨Q⟩) E := rfl
end
section
variable {env : Sl} {M : Mem} {D : QEnds}
def altB (t1 t2 : QT) (env : Sl) (M : Mem) [Q : Box PK] [E : Box EK] : Prop := t1 env M Q.v E.v ∨ t2 env M Q.v E.v
theorem e_qAlt {t1 t2 : QT} {Q : PK} {E : EK} : qAlt t1 t2 env M Q E = @altB t1 t2 env M ⟨Q⟩ ⟨E⟩ := rfl
theorem alt_l {t1 t2 : QT} {Q : Box PK} {E : Box EK} (h : t1 env M Q.v E.v) : @altB t1 t2 env M Q E := .inl h
theorem alt_r {t1 t2 : QT} {Q : Box PK} {E : Box EK} (h : t2 env M Q.v E.v) : @altB t1 t2 env M Q E := .inr h
def forSP (x : PV) (g : QTG) (b : QS) (D : QEnds) (env : Sl) (M1 : Mem) : Prop := match x with
  | .str s => forI s.cps.size (fun i x => ∃ c, s.cps[i]? = some c ∧ x = .str ⟨#[c]⟩) (fun _ => True) g b D env M1
  | _ => False
theorem e_sForS {t : QT} {g : QTG} {b : QS} : sForS t g b D env M = t env M (fun x M1 => forSP x g b D env M1) (exE D env) := rfl
theorem forSP_str {s : Str} {g : QTG} {b : QS} : forSP (.str s) g b D env M = forI s.cps.size (fun i x => ∃ c, s.cps[i]? = some c ∧ x = .str ⟨#[c]⟩) (fun _ => True) g b D env M := rfl
end
end TN

/-! the head of a law with lambdas: the tables of code objects are looked at, too -/
namespace TW
open PySem PySem.Spec PyProof.Rows L2
structure SaysL (fx : PySem.W.Frag → List Bool) (fn : List He.DefD) (tf : List He.Defn) (h : Heap) (K : PySem.W.Frag) : Prop where
  c : SaysC fx fn K
  hd : ∀ p ∈ tf, PySem.W.codeHdIn K (He.cT K p).1 (He.cT K p).2 = true
  out : ∀ p ∈ tf, K.lookup (He.cT K p).2 = none
  empty : ∀ p ∈ tf, h.get? (He.cT K p).2 = some { cls := .none, data := .fields #[] }
def tabL (g : Addr → Option Obj) (K : PySem.W.Frag) (p : He.Defn) : Bool := PySem.W.codeHdIn K (He.cT K p).1 (He.cT K p).2 && ((K.lookup (He.cT K p).2).isNone && (match g (He.cT K p).2 with
  | some o => He.emptyTab o
  | none => false))
def tabsL (g : Addr → Option Obj) (tf : List He.Defn) (K : PySem.W.Frag) : Bool := tf.all (tabL g K)
theorem tabL_ok {g : Addr → Option Obj} {K : PySem.W.Frag} {p : He.Defn} (h : tabL g K p = true) : PySem.W.codeHdIn K (He.cT K p).1 (He.cT K p).2 = true ∧ K.lookup (He.cT K p).2 = none ∧ g (He.cT K p).2 = some { cls := .none, data := .fields #[] } := by
  unfold tabL at h
  simp only [Bool.and_eq_true] at h
  obtain ⟨h1, h2, h3⟩ := h
  refine ⟨h1, Option.isNone_iff_eq_none.mp h2, ?_⟩
  cases e : g (He.cT K p).2 with
  | none => rw [e] at h3; cases h3
  | some o =>
    rw [e] at h3
    rw [He.emptyTab_eq h3]
def hookL (fx : PySem.W.Frag → List Bool) (fn : List He.DefD) (tf : List He.Defn) : PySem.W.Hook where
  α := AlC × Bool
  obs := fun s => (obsC fx fn (frC s.heap.get?), tabsL s.heap.get? tf (frC s.heap.get?))
  val := fun _ => (valC fn, true)
  says := fun _ h => ∃ K : PySem.W.Frag, K.In h ∧ SaysL fx fn tf h K
  of := fun _ _ e => by
    have e1 := congrArg (fun z : AlC × Bool => z.1) e
    have e2 := fun p hp => tabL_ok (List.all_eq_true.mp (congrArg (fun z : AlC × Bool => z.2) e) p hp)
    exact ⟨_, He.frG_in, ⟨congrArg (fun z : AlC => z.1) e1, congrArg (fun z : AlC => z.2.1) e1, congrArg (fun z : AlC => z.2.2) e1⟩, fun p hp => (e2 p hp).1, fun p hp => (e2 p hp).2.1, fun p hp => (e2 p hp).2.2⟩
  keeps := fun _ _ _ ⟨K, hK, c⟩ k => ⟨K, PySem.W.Frag.In.keeps hK k, c.c, c.hd, c.out, fun p hp => k _ _ (c.empty p hp)⟩
def obL (fx : PySem.W.Frag → List Bool) (fn : List He.DefD) (tf : List He.Defn) (s : PySem.W.SharedT) : AlC × Bool := (obsC fx fn (frC (HandSHeadRun.getT s)), tabsL (HandSHeadRun.getT s) tf (frC (HandSHeadRun.getT s)))
theorem obL_eq {fx : PySem.W.Frag → List Bool} {fn : List He.DefD} {tf : List He.Defn} (s : PySem.W.SharedT) : obL fx fn tf s = (hookL fx fn tf).obs s.abs := by
  have e : HandSHeadRun.getT s = s.abs.heap.get? := funext fun a => HandSHeadRun.getT_eq s a
  unfold obL
  rw [e]
  rfl
section
open PySem.W PySem.Calls HandSHeadRun
theorem run_ofL {r : OpenRow} {q : Program} {M : Nat} {loose : List PySem.Str} {w : World} {fx : PySem.W.Frag → List Bool} {fn : List He.DefD} {tf : List He.Defn}
    (h1 : Asks r.prog M (fun s => looksF r.prog (boot_heap w.params) s.abs) true w)
    (h2 : Asks r.prog M (fun s => seenQ q loose (importedModules r.prog.main.body) (fun s => xlAt q [] s && recOk r.toRowW.records s) s.abs) (openGood q loose) w)
    (h3 : ∀ (os : OsState) (s : SharedT), endC r.prog M w os = some s → SaysC fx fn (frC (getT s)))
    (h4 : Asks r.prog M (fun s => tabsL (getT s) tf (frC (getT s))) true w) : RunEq r q (hookL fx fn tf) (obL fx fn tf) M loose w := fun os => by
  have z := h1 os
  cases e : endC r.prog M w os with
  | none => rw [e] at z; cases z
  | some s =>
    have e' : endF (stepQ (denQ tabQ) r.prog w) M r.prog w os = some s := e
    rw [e']
    have c := h3 os s e
    have e3 : obL fx fn tf s = (valC fn, true) := by
      show (((fx (frC (getT s))).all (fun b => b), fn.all fun d => d.ok (frC (getT s)), fn.map fun d => He.fnW (frC (getT s)) d.at_), tabsL (getT s) tf (frC (getT s))) = ((true, true, fn.map He.DefD.val), true)
      rw [c.f, c.d, c.v, h4.at_ e]
    show some (looksF r.prog (boot_heap w.params) s.abs, _, obL fx fn tf s) = some (true, openGood q loose, (valC fn, true))
    rw [h1.at_ e, h2.at_ e, e3]
end
/-- a def's code object -/
theorem code_cT {K : PySem.W.Frag} {p : He.Defn} {fd : FuncData} {oc : Value} {od : Option Addr} {osl : Array (Option Value)} (lk : K.lookup (He.fAd K p) = some ⟨oc, od, .func fd, osl⟩) {q : Str} (hc : PySem.W.codeIn K fd.code q = true) : fd.code = .ref (He.cT K p).1 := by
  obtain ⟨c, e⟩ := He.codeIn_ref hc
  rw [e]
  show Value.ref c = .ref (He.codeOf K p)
  rw [He.codeOf_eq lk e]
theorem code_of {K : PySem.W.Frag} {p : He.Defn} {x qual : Str} {pa : Arguments} {b : List Stmt} {sc : Scope} {dvs : List V} {kws : List (Str × V)} {d : FuncData} (F : FunD K x qual pa b sc dvs kws (He.fAd K p) d) : d.code = .ref (He.cT K p).1 := by
  obtain ⟨oc, od, dV, kV, doc, pm, an, cdv, ct, osl, rfl, lk, hcd, _⟩ := F.ex
  exact code_cT lk hcd

/-! ### the law called by the claim's caller, under whom no repr is under way -/
section
variable {K : PySem.W.Frag} {a : Addr} {lo : Obj} {zs : List Int} {cs : List (Addr × Addr)} {h : Heap}
def entryH (K : PySem.W.Frag) (a : Addr) (lo : Obj) (zs : List Int) (cs : List (Addr × Addr)) : Hp := fun b =>
  if b ∈ cs.map (·.2) then some (.tbl #[]) else if b = a ∧ K.lookup a = none then some (.frz lo (.lst (zs.map V.int))) else none
theorem entry_tab {b : Addr} (hb : b ∈ cs.map (·.2)) : entryH K a lo zs cs b = some (.tbl #[]) := if_pos hb
theorem entry_cases {b : Addr} {u : HO} (e : entryH K a lo zs cs b = some u) : (b ∈ cs.map (·.2) ∧ u = .tbl #[]) ∨ (b ∉ cs.map (·.2) ∧ b = a ∧ K.lookup a = none ∧ u = .frz lo (.lst (zs.map V.int))) := by
  unfold entryH at e
  by_cases h1 : b ∈ cs.map (·.2)
  · rw [if_pos h1] at e
    exact .inl ⟨h1, (Option.some.inj e).symm⟩
  · rw [if_neg h1] at e
    by_cases h2 : b = a ∧ K.lookup a = none
    · rw [if_pos h2] at e
      exact .inr ⟨h1, h2.1, h2.2, (Option.some.inj e).symm⟩
    · rw [if_neg h2] at e
      cases e
theorem entry_none {b : Addr} (h1 : b ∉ cs.map (·.2)) (h2 : ¬ (b = a ∧ K.lookup a = none)) : entryH K a lo zs cs b = none := by
  unfold entryH
  rw [if_neg h1, if_neg h2]
theorem entry_vis (hT : ∀ p ∈ cs, h.get? p.2 = some { cls := .none, data := .fields #[] }) (hl : h.get? a = some lo) (hs : ∃ xs n, lo.data = .seq xs n) {b : Addr} {o : Obj} (e : h.get? b = some o) (n1 : ∀ xs n, o.data ≠ .seq xs n) (n2 : o.data ≠ .fields #[]) : entryH K a lo zs cs b = none := by
  refine entry_none (fun z => ?_) (fun z => ?_)
  · obtain ⟨p, hp, q⟩ := List.mem_map.mp z
    have t := hT p hp
    rw [q, e] at t
    exact n2 (by rw [Option.some.inj t])
  · obtain ⟨xs, n, q⟩ := hs
    rw [z.1, hl] at e
    exact n1 xs n (by rw [← Option.some.inj e]; exact q)
end
theorem law_callG {P : Program} {w : World} {K : PySem.W.Frag} {mg mb : Str → Option Value} {k : Nat} {fa a : Addr} {cs : List (Addr × Addr)} {fd : FuncData} {x : Str} {sp : TQ.SpQ} {s : Shared} {us : List Value} {zs : List Int}
    (kin : K.In s.heap) (gl : s.heap.Ns mainGlobals mg) (bl : s.heap.Ns builtinsNs mb) (bb : ∀ x : Str, x ≠ "__name__" → mb x = bootBuiltins x) (nl : s.heap.NoLimit) (ge : s.gens = #[])
    (hT : ∀ p ∈ cs, s.heap.get? p.2 = some { cls := .none, data := .fields #[] }) (nT : ∀ p ∈ cs, K.lookup p.2 = none) (hC : ∀ p ∈ cs, PySem.W.CodeHd s.heap p.1 p.2)
    (bm : ∃ (m : Addr) (o : Obj), mg "__builtins__" = some (.ref m) ∧ m ≠ builtinsNs ∧ s.heap.get? m = some o ∧ o.cls = .type "module" ∧ o.dict = some builtinsNs ∧ o.data = .plain)
    (hl : s.heap.get? a = some { cls := .type "list", data := .seq us.toArray }) (hi : IntsAre us zs) (hz : zs.length ≤ sizeLine) (hr : Room k callerA)
    (F : ∀ base : Heap, K.In base → base.Ns mainGlobals mg → (∀ p ∈ cs, LamX.TabB base mg p.1 p.2) → TQ.FnG P w K mg base k fa fd [x] sp) (hb : ∀ (s : Shared) (u : Value), BindsTo s fd ⟨[u], []⟩ [(x, u)])
    (hsp : ∀ H : Hp, (∀ p ∈ cs, H p.2 = some (.tbl #[])) → SqL K H a (zs.map V.int) → TQ.spQ K sp [.ref a] H (fun v _ => v = .bl true) fun _ _ _ => False) :
    codeAny (model P w) callerA (.call (.ref fa) ⟨[.ref a], []⟩) (fun r s' => r = .ok (.ret (.bool true)) ∧ OldK s.heap s'.heap ∧ s'.os = s.os ∧ AllBare s'.gens) s := by
  obtain ⟨lo, elo⟩ : ∃ lo : Obj, lo = { cls := .type "list", data := .seq us.toArray } := ⟨_, rfl⟩
  have hl' : s.heap.get? a = some lo := by rw [elo]; exact hl
  have hsq : ∃ xs n, lo.data = .seq xs n := ⟨us.toArray, _, by rw [elo]⟩
  have aT : a ∉ cs.map (·.2) := fun z => by
    obtain ⟨p, hp, q⟩ := List.mem_map.mp z
    have t := hT p hp
    rw [q, hl] at t
    have t2 := congrArg Obj.data (Option.some.inj t)
    cases t2
  obtain ⟨H0, eH⟩ : ∃ H0, H0 = entryH K a lo zs cs := ⟨_, rfl⟩
  have vis : ∀ {b : Addr} {o : Obj}, s.heap.get? b = some o → (∀ xs n, o.data ≠ .seq xs n) → o.data ≠ .fields #[] → (hidT s.heap H0).get? b = some o := fun {b o} e n1 n2 => hidT_get e (by rw [eH]; exact entry_vis hT hl' hsq e n1 n2)
  have visN : ∀ {L : Addr} {m : Str → Option Value}, s.heap.Ns L m → (hidT s.heap H0).Ns L m := fun {L m} ⟨o, es, ep, e, d, r⟩ => ⟨o, es, ep, vis e (fun xs n z => by rw [d] at z; cases z) (fun z => by rw [d] at z; cases z), d, r⟩
  have kb : K.In (hidT s.heap H0) := fun b o e => hidT_get (kin b o e) (by
    rw [eH]
    refine entry_none (fun z => ?_) (fun z => ?_)
    · obtain ⟨p, hp, q⟩ := List.mem_map.mp z
      have t := nT p hp
      rw [q, e] at t
      cases t
    · rw [z.1, z.2] at e
      cases e)
  have md : L2.Mod K mg (hidT s.heap H0) := ⟨kb, visN gl, ⟨mb, visN bl, bb⟩, by obtain ⟨mc, q1, q2⟩ := nl; exact ⟨mc, visN q1, q2⟩⟩
  have tb : ∀ p ∈ cs, LamX.TabB (hidT s.heap H0) mg p.1 p.2 := fun p hp => by
    have tp := hT p hp
    obtain ⟨o, vs, f1, t1, f2, t2, f3, f4, t4, r1, r2, r3, r4, r5, r6, r7, r8, r9, r10⟩ := hC p hp
    obtain ⟨m, om, m1, m2, m3, m4, m5, m6⟩ := bm
    obtain ⟨og, eg, ng, g1, g2, _⟩ := id gl
    have c1 := vis r1 (fun xs n z => by rw [r3] at z; cases z) (fun z => by rw [r3] at z; cases z; simp at r4)
    have c2 := vis m3 (fun xs n z => by rw [m6] at z; cases z) (fun z => by rw [m6] at z; cases z)
    refine ⟨⟨o, vs, f1, t1, f2, t2, f3, f4, t4, c1, r2, r3, r4, r5, r6, r7, r8, r9, r10⟩, ⟨m, om, m1, m2, ?_, ?_, c2, m4, m5, m6⟩, ?_⟩
    · intro z; rw [z, g1] at m3; cases m3; rw [g2] at m6; cases m6
    · intro z; rw [z, tp] at m3; cases m3; cases m6
    · intro z; rw [z, tp] at g1; cases g1; cases g2
  have vz := vals_ints hi
  have szz : SqL K H0 a (zs.map V.int) := by
    cases q : K.lookup a with
    | none => exact .inl (.inr ⟨lo, by rw [eH]; unfold entryH; rw [if_neg aT, if_pos ⟨rfl, q⟩]⟩)
    | some o =>
      have t := kin a o q
      rw [hl] at t
      cases t
      exact .inr ⟨_, us.toArray, _, q, rfl, rfl, rfl, by rw [List.size_toArray, hi.length]; exact hz, by simpa using vz⟩
  have hok : HOk P w H0 s.heap := fun b u e => by
    rw [eH] at e
    rcases entry_cases e with ⟨q1, rfl⟩ | ⟨_, rfl, _, rfl⟩
    · obtain ⟨p, hp, q⟩ := List.mem_map.mp q1
      have t := hT p hp
      rw [q] at t
      exact t
    · exact ⟨hl', by rw [List.length_map]; exact hz, us, _, vz, hl⟩
  have e0 : Env0 P w K mg (hidT s.heap H0) callerA [] s H0 := ⟨rfl, md, fun b o e => of_hidT e, Nat.le_of_eq (hidT_size _ _), trivial, fun b z => (nomatch (show b ∈ ([] : List Addr) from z)), hok, .of_eq ge⟩
  have sp0 := hsp H0 (fun p hp => by rw [eH]; exact entry_tab (List.mem_map.mpr ⟨p, hp, rfl⟩)) szz
  refine codeAny_mono ((F _ kb (visN gl) tb).run callerA [] s H0 ⟨[.ref a], []⟩ [.ref a] [.ref a] _ _ rfl hr e0 (hb s (.ref a)) (.cons rfl .nil) sp0) fun r s' z => ?_
  match r, z with
  | .error e, z => exact (TQ.law_CX H0 s e s' z).elim
  | .ok .next, z => exact z.elim
  | .ok .brk, z => exact z.elim
  | .ok .cont, z => exact z.elim
  | .ok (.ret u), z =>
    obtain ⟨v, H', z1, z2, un, ok', rv, rfl⟩ := z
    obtain rfl : u = Value.bool true := rv
    have more : ∀ p ∈ cs, ∃ ps : Array Value, s'.heap.get? p.2 = some { cls := .none, data := .fields ps } := fun p hp => by
      obtain ⟨ps, q⟩ := un.tbls p.2 #[] (by rw [eH]; exact entry_tab (List.mem_map.mpr ⟨p, hp, rfl⟩))
      exact ⟨_, ok' p.2 _ q⟩
    have same : ∀ b o, b ∉ cs.map (·.2) → s.heap.get? b = some o → s'.heap.get? b = some o := fun b o nb e => by
      cases q : H0 b with
      | none => exact un.keep b o e q (fun z => nomatch (show b ∈ ([] : List Addr) from z)) (by simp)
      | some u =>
        have q2 := q
        rw [eH] at q2
        rcases entry_cases q2 with ⟨y, _⟩ | ⟨_, rfl, _, rfl⟩
        · exact absurd y nb
        · have y := (ok' b _ (un.frzs b _ _ q)).1
          rw [hl'] at e
          rw [← Option.some.inj e]
          exact y
    refine ⟨rfl, ⟨fun b o e => ?_, fun b o e => ?_⟩, z1, z2⟩
    · by_cases nb : b ∈ cs.map (·.2)
      · obtain ⟨p, hp, rfl⟩ := List.mem_map.mp nb
        obtain ⟨ps, q⟩ := more p hp
        rw [hT p hp] at e
        obtain rfl := Option.some.inj e
        exact .inr (.inl ⟨((hC p hp).tab (hT p hp)).isCodeTable, rfl, #[], ps, rfl, by rw [Array.empty_append]; exact q⟩)
      · exact .inl (same b o nb e)
    · by_cases nb : b ∈ cs.map (·.2)
      · obtain ⟨p, hp, rfl⟩ := List.mem_map.mp nb
        obtain ⟨ps, q⟩ := more p hp
        exact ⟨_, q⟩
      · exact ⟨o, same b o nb e⟩
theorem walk_ofG {l : PySem.W.OpenLaw} {n k : Nat} {q : Program} {loose : List Str} {XP : (Str → Option Value) → Heap → Prop} {YP : World → Heap → Prop} {d : DefRec} {x : Str} (hn : l.most = some n) (hn2 : n ≤ sizeLine) (hdf : d.params.defaults = []) (hr : Room k callerA)
    (F : ∀ (w : World) (mg : Str → Option Value) (fa : Addr) (h : Heap), YP w h → h.Ns mainGlobals mg → mg d.name = some (.ref fa) → ∃ (K : PySem.W.Frag) (fd : FuncData) (cs : List (Addr × Addr)) (sp : TQ.SpQ), K.In h ∧ (∀ p ∈ cs, h.get? p.2 = some { cls := .none, data := .fields #[] }) ∧
      (∀ p ∈ cs, K.lookup p.2 = none) ∧ (∀ p ∈ cs, PySem.W.CodeHd h p.1 p.2) ∧ (∀ (s : Shared) (u : Value), BindsTo s fd ⟨[u], []⟩ [(x, u)]) ∧
      (∀ (H : Hp) (a : Addr) (zs : List Int), zs.length ≤ n → (∀ p ∈ cs, H p.2 = some (.tbl #[])) → SqL K H a (zs.map V.int) → TQ.spQ K sp [.ref a] H (fun v _ => v = .bl true) fun _ _ _ => False) ∧
      ∀ base : Heap, K.In base → base.Ns mainGlobals mg → (∀ p ∈ cs, LamX.TabB base mg p.1 p.2) → TQ.FnG l.prog w K mg base k fa fd [x] sp) :
    PySem.W.WalkO q loose XP YP l.row.toRowW d [] (fun f vs => PySem.call f vs) := by
  refine Att.attach_callB hn hdf fun w _ s mg mb fa _ _ _ _ a us zs G Y _ _ _ hmg hobj hints hlen _ hge => ?_
  obtain ⟨K, fd, cs, sp, kin, hT, nT, hC, hb, hsp, hF⟩ := F w mg fa _ Y G.T.g hmg
  exact law_callG kin G.T.g G.T.b G.T.builtins G.T.nolimit hge hT nT hC G.T.bmain hobj hints (Nat.le_trans hlen hn2) hr hF hb (fun H h1 h2 => hsp H a zs hlen h1 h2)
end TW

namespace K30
open PySem PySem.Spec PyProof.Rows L2 TQ TM TN
def top (i : Nat) : Stmt := PySem.Challenge.pw_tenreckon_k30_next_ones.main.body.getD i (.Pass ⟨0, 0, 0, 0⟩)
abbrev s_is_whole : Stmt := (top 8)
abbrev s_Number___init__ : Stmt := (inClass (top 9) 0)
abbrev s_plain : Stmt := (top 10)
abbrev s_end : Stmt := (top 11)
abbrev s_nothing : Stmt := (top 12)
abbrev s_need_number : Stmt := (top 13)
abbrev s_told : Stmt := (top 14)
abbrev s_ten_to : Stmt := (top 16)
abbrev s_count_of : Stmt := (top 15)
abbrev s_lead_of : Stmt := (top 17)
abbrev s_part_of : Stmt := (top 19)
abbrev s_Ratio___init__ : Stmt := (inClass (top 21) 0)
abbrev s_Ratio_at : Stmt := (inClass (top 21) 2)
abbrev s_Way_name : Stmt := (inClass (top 24) 0)
abbrev s_Up_name : Stmt := (inClass (top 26) 0)
abbrev s_Floor_name : Stmt := (inClass (top 27) 0)
abbrev s_Ceiling_name : Stmt := (inClass (top 28) 0)
abbrev s_HalfUp_name : Stmt := (inClass (top 29) 0)
abbrev s_HalfDown_name : Stmt := (inClass (top 30) 0)
abbrev s_HalfEven_name : Stmt := (inClass (top 31) 0)
abbrev s_FiveUp_name : Stmt := (inClass (top 32) 0)
abbrev s_half_way : Stmt := (top 33)
abbrev s_way_of : Stmt := (top 34)
abbrev s_need : Stmt := (top 39)
abbrev s_is_signal : Stmt := (top 40)
abbrev s_Context___init__ : Stmt := (inClass (top 41) 0)
abbrev s_Context_lowest : Stmt := (inClass (top 41) 2)
abbrev s_Context_flags : Stmt := (inClass (top 41) 3)
abbrev s_Context_trap : Stmt := (inClass (top 41) 5)
abbrev s_Context_traps : Stmt := (inClass (top 41) 6)
abbrev s_Context_raised : Stmt := (inClass (top 41) 7)
abbrev s_greatest_of : Stmt := (top 43)
abbrev s_last_place : Stmt := (top 44)
abbrev s_one_farther : Stmt := (top 45)
abbrev s_one_nearer : Stmt := (top 46)
abbrev s_next_to : Stmt := (top 47)
abbrev s_next_up : Stmt := (top 48)
abbrev s_next_down : Stmt := (top 49)
abbrev s__law_cell_at : Stmt := (top 51)
abbrev s__law_mixed : Stmt := (top 52)
abbrev s__law_ten : Stmt := (top 53)
abbrev s__law_figures : Stmt := (top 54)
abbrev s__law_number : Stmt := (top 55)
abbrev s__law_made : Stmt := (top 56)
abbrev s__law_own : Stmt := (top 57)
abbrev s__law_context : Stmt := (top 58)
abbrev s__law_gone : Stmt := (top 68)
abbrev s__law_tried : Stmt := (top 59)
abbrev s__law_stands : Stmt := (top 60)
abbrev s__law_shown : Stmt := (top 61)
abbrev s__law_most : Stmt := (top 62)
abbrev s__law_grid : Stmt := (top 63)
abbrev s__law_farther : Stmt := (top 64)
abbrev s__law_nearer : Stmt := (top 65)
abbrev s__law_due : Stmt := (top 66)
abbrev s__law_border : Stmt := (top 67)
abbrev s_law : Stmt := (top 69)
abbrev s_Trapped___init__ : Stmt := (inClass (top 5) 0)
abbrev X_law_lam0 : Expr := ((subX ((subX ((subE ((subS ((defBody s_law).getD 5 (.Pass ⟨0, 0, 0, 0⟩))).getD 2 (.Pass ⟨0, 0, 0, 0⟩))).getD 0 (.Name (Str.ofString "") ⟨0, 0, 0, 0⟩))).getD 0 (.Name (Str.ofString "") ⟨0, 0, 0, 0⟩))).getD 3 (.Name (Str.ofString "") ⟨0, 0, 0, 0⟩))
abbrev L_law_lam0 : LamT := lamT ((("law" : Str) ++ ".<locals>.") ++ "<lambda>") X_law_lam0
theorem fb_law_lam0 : freeB (defScope s_law) L_law_lam0 = true := by decide +kernel
theorem nx_law_lam0 : ([6, 4, 2] : List Nat).map (fun n => (["_law_script", "_law_own_here", "_law_context_here", "_law_one", "_law_first", "_law_turn", "_law_sign", "_law_due_here"] : List Str)[n]?) = (TQ.capN L_law_lam0).map some := by decide +kernel
theorem ln_law_lam0 : LamN L_law_lam0 [] := ⟨rfl, rfl, rfl, by decide +kernel, by decide +kernel, by decide +kernel, by decide +kernel⟩
theorem sc_is_whole : FnScope ["thing", "least", "most"] ["thing", "least", "most"] (defScope s_is_whole) := ⟨rfl, rfl, rfl, by decide +kernel, rfl, by decide +kernel, by decide +kernel⟩
theorem sc_Number___init__ : FnScope ["self", "kind", "sign", "figures", "power"] ["self", "kind", "sign", "figures", "power"] (defScope s_Number___init__) := ⟨rfl, rfl, rfl, by decide +kernel, rfl, by decide +kernel, by decide +kernel⟩
theorem sc_plain : FnScope ["sign", "figures", "power"] ["sign", "figures", "power"] (defScope s_plain) := ⟨rfl, rfl, rfl, by decide +kernel, rfl, by decide +kernel, by decide +kernel⟩
theorem sc_end : FnScope ["sign"] ["sign"] (defScope s_end) := ⟨rfl, rfl, rfl, by decide +kernel, rfl, by decide +kernel, by decide +kernel⟩
theorem sc_nothing : FnScope [] [] (defScope s_nothing) := ⟨rfl, rfl, rfl, by decide +kernel, rfl, by decide +kernel, by decide +kernel⟩
theorem sc_need_number : FnScope ["thing"] ["thing"] (defScope s_need_number) := ⟨rfl, rfl, rfl, by decide +kernel, rfl, by decide +kernel, by decide +kernel⟩
theorem sc_told : FnScope ["number"] ["number"] (defScope s_told) := ⟨rfl, rfl, rfl, by decide +kernel, rfl, by decide +kernel, by decide +kernel⟩
theorem sc_ten_to : FnScope ["power", "found", "base", "odd"] ["power"] (defScope s_ten_to) := ⟨rfl, rfl, rfl, by decide +kernel, rfl, by decide +kernel, by decide +kernel⟩
theorem sc_count_of : FnScope ["figures", "many", "bound"] ["figures"] (defScope s_count_of) := ⟨rfl, rfl, rfl, by decide +kernel, rfl, by decide +kernel, by decide +kernel⟩
theorem sc_lead_of : FnScope ["number"] ["number"] (defScope s_lead_of) := ⟨rfl, rfl, rfl, by decide +kernel, rfl, by decide +kernel, by decide +kernel⟩
theorem sc_part_of : FnScope ["rest", "bottom"] ["rest", "bottom"] (defScope s_part_of) := ⟨rfl, rfl, rfl, by decide +kernel, rfl, by decide +kernel, by decide +kernel⟩
theorem sc_Ratio___init__ : FnScope ["self", "top", "bottom", "power"] ["self", "top", "bottom", "power"] (defScope s_Ratio___init__) := ⟨rfl, rfl, rfl, by decide +kernel, rfl, by decide +kernel, by decide +kernel⟩
theorem sc_Ratio_at : FnScope ["self", "power", "shift", "bottom", "whole", "rest"] ["self", "power"] (defScope s_Ratio_at) := ⟨rfl, rfl, rfl, by decide +kernel, rfl, by decide +kernel, by decide +kernel⟩
theorem sc_Way_name : FnScope ["self"] ["self"] (defScope s_Way_name) := ⟨rfl, rfl, rfl, by decide +kernel, rfl, by decide +kernel, by decide +kernel⟩
theorem sc_Up_name : FnScope ["self"] ["self"] (defScope s_Up_name) := ⟨rfl, rfl, rfl, by decide +kernel, rfl, by decide +kernel, by decide +kernel⟩
theorem sc_Floor_name : FnScope ["self"] ["self"] (defScope s_Floor_name) := ⟨rfl, rfl, rfl, by decide +kernel, rfl, by decide +kernel, by decide +kernel⟩
theorem sc_Ceiling_name : FnScope ["self"] ["self"] (defScope s_Ceiling_name) := ⟨rfl, rfl, rfl, by decide +kernel, rfl, by decide +kernel, by decide +kernel⟩
theorem sc_HalfUp_name : FnScope ["self"] ["self"] (defScope s_HalfUp_name) := ⟨rfl, rfl, rfl, by decide +kernel, rfl, by decide +kernel, by decide +kernel⟩
theorem sc_HalfDown_name : FnScope ["self"] ["self"] (defScope s_HalfDown_name) := ⟨rfl, rfl, rfl, by decide +kernel, rfl, by decide +kernel, by decide +kernel⟩
theorem sc_HalfEven_name : FnScope ["self"] ["self"] (defScope s_HalfEven_name) := ⟨rfl, rfl, rfl, by decide +kernel, rfl, by decide +kernel, by decide +kernel⟩
theorem sc_FiveUp_name : FnScope ["self"] ["self"] (defScope s_FiveUp_name) := ⟨rfl, rfl, rfl, by decide +kernel, rfl, by decide +kernel, by decide +kernel⟩
theorem sc_half_way : FnScope ["name"] ["name"] (defScope s_half_way) := ⟨rfl, rfl, rfl, by decide +kernel, rfl, by decide +kernel, by decide +kernel⟩
theorem sc_way_of : FnScope ["name"] ["name"] (defScope s_way_of) := ⟨rfl, rfl, rfl, by decide +kernel, rfl, by decide +kernel, by decide +kernel⟩
theorem sc_need : FnScope ["good"] ["good"] (defScope s_need) := ⟨rfl, rfl, rfl, by decide +kernel, rfl, by decide +kernel, by decide +kernel⟩
theorem sc_is_signal : FnScope ["thing"] ["thing"] (defScope s_is_signal) := ⟨rfl, rfl, rfl, by decide +kernel, rfl, by decide +kernel, by decide +kernel⟩
theorem sc_Context___init__ : FnScope ["self", "room", "way", "least", "most"] ["self", "room", "way", "least", "most"] (defScope s_Context___init__) := ⟨rfl, rfl, rfl, by decide +kernel, rfl, by decide +kernel, by decide +kernel⟩
theorem sc_Context_lowest : FnScope ["self"] ["self"] (defScope s_Context_lowest) := ⟨rfl, rfl, rfl, by decide +kernel, rfl, by decide +kernel, by decide +kernel⟩
theorem sc_Context_flags : FnScope ["self", "name"] ["self"] (defScope s_Context_flags) := ⟨rfl, rfl, rfl, by decide +kernel, rfl, by decide +kernel, by decide +kernel⟩
theorem sc_Context_trap : FnScope ["self", "names", "name"] ["self", "names"] (defScope s_Context_trap) := ⟨rfl, rfl, rfl, by decide +kernel, rfl, by decide +kernel, by decide +kernel⟩
theorem sc_Context_traps : FnScope ["self", "name"] ["self"] (defScope s_Context_traps) := ⟨rfl, rfl, rfl, by decide +kernel, rfl, by decide +kernel, by decide +kernel⟩
theorem sc_Context_raised : FnScope ["self", "names", "name"] ["self", "names"] (defScope s_Context_raised) := ⟨rfl, rfl, rfl, by decide +kernel, rfl, by decide +kernel, by decide +kernel⟩
theorem sc_greatest_of : FnScope ["context", "sign"] ["context", "sign"] (defScope s_greatest_of) := ⟨rfl, rfl, rfl, by decide +kernel, rfl, by decide +kernel, by decide +kernel⟩
theorem sc_last_place : FnScope ["context", "one"] ["context", "one"] (defScope s_last_place) := ⟨rfl, rfl, rfl, by decide +kernel, rfl, by decide +kernel, by decide +kernel⟩
theorem sc_one_farther : FnScope ["context", "one", "sign", "power", "many"] ["context", "one", "sign"] (defScope s_one_farther) := ⟨rfl, rfl, rfl, by decide +kernel, rfl, by decide +kernel, by decide +kernel⟩
theorem sc_one_nearer : FnScope ["context", "one", "power", "many", "part"] ["context", "one"] (defScope s_one_nearer) := ⟨rfl, rfl, rfl, by decide +kernel, rfl, by decide +kernel, by decide +kernel⟩
theorem sc_next_to : FnScope ["context", "one", "sign"] ["context", "one", "sign"] (defScope s_next_to) := ⟨rfl, rfl, rfl, by decide +kernel, rfl, by decide +kernel, by decide +kernel⟩
theorem sc_next_up : FnScope ["context", "one"] ["context", "one"] (defScope s_next_up) := ⟨rfl, rfl, rfl, by decide +kernel, rfl, by decide +kernel, by decide +kernel⟩
theorem sc_next_down : FnScope ["context", "one"] ["context", "one"] (defScope s_next_down) := ⟨rfl, rfl, rfl, by decide +kernel, rfl, by decide +kernel, by decide +kernel⟩
theorem sc__law_cell_at : FnScope ["_law_script", "_law_k"] ["_law_script", "_law_k"] (defScope s__law_cell_at) := ⟨rfl, rfl, rfl, by decide +kernel, rfl, by decide +kernel, by decide +kernel⟩
theorem sc__law_mixed : FnScope ["_law_cell", "_law_k"] ["_law_cell", "_law_k"] (defScope s__law_mixed) := ⟨rfl, rfl, rfl, by decide +kernel, rfl, by decide +kernel, by decide +kernel⟩
theorem sc__law_ten : FnScope ["_law_count"] ["_law_count"] (defScope s__law_ten) := ⟨rfl, rfl, rfl, by decide +kernel, rfl, by decide +kernel, by decide +kernel⟩
theorem sc__law_figures : FnScope ["_law_cell", "_law_way", "_law_more", "_law_found", "_law_k"] ["_law_cell", "_law_way"] (defScope s__law_figures) := ⟨rfl, rfl, rfl, by decide +kernel, rfl, by decide +kernel, by decide +kernel⟩
theorem sc__law_number : FnScope ["_law_cell", "_law_kind", "_law_sign", "_law_more", "_law_wide"] ["_law_cell"] (defScope s__law_number) := ⟨rfl, rfl, rfl, by decide +kernel, rfl, by decide +kernel, by decide +kernel⟩
theorem sc__law_made : FnScope ["_law_one"] ["_law_one"] (defScope s__law_made) := ⟨rfl, rfl, rfl, by decide +kernel, rfl, by decide +kernel, by decide +kernel⟩
theorem sc__law_own : FnScope ["_law_cell", "_law_ways", "_law_signals", "_law_more", "_law_own_here", "_law_k"] ["_law_cell"] (defScope s__law_own) := ⟨rfl, rfl, rfl, by decide +kernel, rfl, by decide +kernel, by decide +kernel⟩
theorem sc__law_context : FnScope ["_law_own_here", "_law_context_here"] ["_law_own_here"] (defScope s__law_context) := ⟨rfl, rfl, rfl, by decide +kernel, rfl, by decide +kernel, by decide +kernel⟩
theorem sc__law_gone : FnScope ["_law_context_here", "_law_number_here", "_law_sign"] ["_law_context_here", "_law_number_here", "_law_sign"] (defScope s__law_gone) := ⟨rfl, rfl, rfl, by decide +kernel, rfl, by decide +kernel, by decide +kernel⟩
theorem sc__law_tried : FnScope ["_law_deed", "error"] ["_law_deed"] (defScope s__law_tried) := ⟨rfl, rfl, rfl, by decide +kernel, rfl, by decide +kernel, by decide +kernel⟩
theorem sc__law_stands : FnScope ["_law_context_here", "_law_own_here", "_law_deed", "_law_due_here", "_law_signals", "_law_caught", "_law_wanted", "_law_found", "_law_name"] ["_law_context_here", "_law_own_here", "_law_deed", "_law_due_here"] (defScope s__law_stands) := ⟨rfl, rfl, rfl, by decide +kernel, rfl, by decide +kernel, by decide +kernel⟩
theorem sc__law_shown : FnScope ["_law_own_here", "_law_sign", "_law_many", "_law_cut"] ["_law_own_here", "_law_sign", "_law_many"] (defScope s__law_shown) := ⟨rfl, rfl, rfl, by decide +kernel, rfl, by decide +kernel, by decide +kernel⟩
theorem sc__law_most : FnScope ["_law_own_here", "_law_nines", "_law_wide"] ["_law_own_here"] (defScope s__law_most) := ⟨rfl, rfl, rfl, by decide +kernel, rfl, by decide +kernel, by decide +kernel⟩
theorem sc__law_grid : FnScope ["_law_own_here", "_law_one", "_law_wide", "_law_top", "_law_whole", "_law_left"] ["_law_own_here", "_law_one"] (defScope s__law_grid) := ⟨rfl, rfl, rfl, by decide +kernel, rfl, by decide +kernel, by decide +kernel⟩
theorem sc__law_farther : FnScope ["_law_own_here", "_law_one", "_law_sign", "_law_many", "_law_step"] ["_law_own_here", "_law_one", "_law_sign"] (defScope s__law_farther) := ⟨rfl, rfl, rfl, by decide +kernel, rfl, by decide +kernel, by decide +kernel⟩
theorem sc__law_nearer : FnScope ["_law_own_here", "_law_one", "_law_whole", "_law_is_more", "_law_many", "_law_step"] ["_law_own_here", "_law_one"] (defScope s__law_nearer) := ⟨rfl, rfl, rfl, by decide +kernel, rfl, by decide +kernel, by decide +kernel⟩
theorem sc__law_due : FnScope ["_law_own_here", "_law_one", "_law_sign"] ["_law_own_here", "_law_one", "_law_sign"] (defScope s__law_due) := ⟨rfl, rfl, rfl, by decide +kernel, rfl, by decide +kernel, by decide +kernel⟩
theorem sc__law_border : FnScope ["_law_own_here", "_law_cell", "_law_room", "_law_low", "_law_some", "_law_figures_here", "_law_wide"] ["_law_own_here", "_law_cell"] (defScope s__law_border) := ⟨rfl, rfl, rfl, by decide +kernel, rfl, by decide +kernel, by decide +kernel⟩
theorem sc_law : FnScope ["_law_script", "_law_own_here", "_law_context_here", "_law_one", "_law_first", "_law_turn", "_law_sign", "_law_due_here"] ["_law_script"] (defScope s_law) := ⟨rfl, rfl, rfl, by decide +kernel, rfl, by decide +kernel, by decide +kernel⟩
abbrev gl_SIGNALS : List PV := [.str "void", .str "split", .str "burst", .str "sunk", .str "faint", .str "off", .str "cut"]
abbrev gl_WAYS : List PV := [.str "down", .str "up", .str "floor", .str "ceiling", .str "half up", .str "half down", .str "half even", .str "five up"]

set_option genSizeOf false
set_option genInjectivity false
/-- what the top has written -/
structure Tx (K : PySem.W.Frag) (mg : Str → Option Value) where
  t_is_whole : TopF K mg "is_whole" "is_whole" "is_whole" s_is_whole ["thing", "least", "most"]
  t_Number___init__ : TopD K "__init__" "Number.__init__" s_Number___init__ []
  t_plain : TopF K mg "plain" "plain" "plain" s_plain ["sign", "figures", "power"]
  t_end : TopF K mg "end" "end" "end" s_end ["sign"]
  t_nothing : TopF K mg "nothing" "nothing" "nothing" s_nothing []
  t_need_number : TopF K mg "need_number" "need_number" "need_number" s_need_number ["thing"]
  t_told : TopF K mg "told" "told" "told" s_told ["number"]
  t_ten_to : TopF K mg "ten_to" "ten_to" "ten_to" s_ten_to ["power"]
  t_count_of : TopF K mg "count_of" "count_of" "count_of" s_count_of ["figures"]
  t_lead_of : TopF K mg "lead_of" "lead_of" "lead_of" s_lead_of ["number"]
  t_part_of : TopF K mg "part_of" "part_of" "part_of" s_part_of ["rest", "bottom"]
  t_Ratio___init__ : TopD K "__init__" "Ratio.__init__" s_Ratio___init__ [V.int 0]
  t_Ratio_at : TopM K "at" "Ratio.at" s_Ratio_at ["self", "power"]
  t_Way_name : TopM K "name" "Way.name" s_Way_name ["self"]
  t_Up_name : TopM K "name" "Up.name" s_Up_name ["self"]
  t_Floor_name : TopM K "name" "Floor.name" s_Floor_name ["self"]
  t_Ceiling_name : TopM K "name" "Ceiling.name" s_Ceiling_name ["self"]
  t_HalfUp_name : TopM K "name" "HalfUp.name" s_HalfUp_name ["self"]
  t_HalfDown_name : TopM K "name" "HalfDown.name" s_HalfDown_name ["self"]
  t_HalfEven_name : TopM K "name" "HalfEven.name" s_HalfEven_name ["self"]
  t_FiveUp_name : TopM K "name" "FiveUp.name" s_FiveUp_name ["self"]
  t_half_way : TopF K mg "half_way" "half_way" "half_way" s_half_way ["name"]
  t_way_of : TopF K mg "way_of" "way_of" "way_of" s_way_of ["name"]
  t_need : TopF K mg "need" "need" "need" s_need ["good"]
  t_is_signal : TopF K mg "is_signal" "is_signal" "is_signal" s_is_signal ["thing"]
  t_Context___init__ : TopD K "__init__" "Context.__init__" s_Context___init__ [V.int 9, V.str "half even", V.non, V.int 60]
  t_Context_lowest : TopM K "lowest" "Context.lowest" s_Context_lowest ["self"]
  t_Context_flags : TopM K "flags" "Context.flags" s_Context_flags ["self"]
  t_Context_trap : TopM K "trap" "Context.trap" s_Context_trap ["self", "names"]
  t_Context_traps : TopM K "traps" "Context.traps" s_Context_traps ["self"]
  t_Context_raised : TopM K "raised" "Context.raised" s_Context_raised ["self", "names"]
  t_greatest_of : TopF K mg "greatest_of" "greatest_of" "greatest_of" s_greatest_of ["context", "sign"]
  t_last_place : TopF K mg "last_place" "last_place" "last_place" s_last_place ["context", "one"]
  t_one_farther : TopF K mg "one_farther" "one_farther" "one_farther" s_one_farther ["context", "one", "sign"]
  t_one_nearer : TopF K mg "one_nearer" "one_nearer" "one_nearer" s_one_nearer ["context", "one"]
  t_next_to : TopF K mg "next_to" "next_to" "next_to" s_next_to ["context", "one", "sign"]
  t_next_up : TopF K mg "next_up" "next_up" "next_up" s_next_up ["context", "one"]
  t_next_down : TopF K mg "next_down" "next_down" "next_down" s_next_down ["context", "one"]
  t__law_cell_at : TopF K mg "_law_cell_at" "_law_cell_at" "_law_cell_at" s__law_cell_at ["_law_script", "_law_k"]
  t__law_mixed : TopF K mg "_law_mixed" "_law_mixed" "_law_mixed" s__law_mixed ["_law_cell", "_law_k"]
  t__law_ten : TopF K mg "_law_ten" "_law_ten" "_law_ten" s__law_ten ["_law_count"]
  t__law_figures : TopF K mg "_law_figures" "_law_figures" "_law_figures" s__law_figures ["_law_cell", "_law_way"]
  t__law_number : TopF K mg "_law_number" "_law_number" "_law_number" s__law_number ["_law_cell"]
  t__law_made : TopF K mg "_law_made" "_law_made" "_law_made" s__law_made ["_law_one"]
  t__law_own : TopF K mg "_law_own" "_law_own" "_law_own" s__law_own ["_law_cell"]
  t__law_context : TopF K mg "_law_context" "_law_context" "_law_context" s__law_context ["_law_own_here"]
  t__law_gone : TopF K mg "_law_gone" "_law_gone" "_law_gone" s__law_gone ["_law_context_here", "_law_number_here", "_law_sign"]
  t__law_tried : TopF K mg "_law_tried" "_law_tried" "_law_tried" s__law_tried ["_law_deed"]
  t__law_stands : TopF K mg "_law_stands" "_law_stands" "_law_stands" s__law_stands ["_law_context_here", "_law_own_here", "_law_deed", "_law_due_here"]
  t__law_shown : TopF K mg "_law_shown" "_law_shown" "_law_shown" s__law_shown ["_law_own_here", "_law_sign", "_law_many"]
  t__law_most : TopF K mg "_law_most" "_law_most" "_law_most" s__law_most ["_law_own_here"]
  t__law_grid : TopF K mg "_law_grid" "_law_grid" "_law_grid" s__law_grid ["_law_own_here", "_law_one"]
  t__law_farther : TopF K mg "_law_farther" "_law_farther" "_law_farther" s__law_farther ["_law_own_here", "_law_one", "_law_sign"]
  t__law_nearer : TopF K mg "_law_nearer" "_law_nearer" "_law_nearer" s__law_nearer ["_law_own_here", "_law_one"]
  t__law_due : TopF K mg "_law_due" "_law_due" "_law_due" s__law_due ["_law_own_here", "_law_one", "_law_sign"]
  t__law_border : TopF K mg "_law_border" "_law_border" "_law_border" s__law_border ["_law_own_here", "_law_cell"]
  t_law : TopF K mg "law" "law" "law" s_law ["_law_script"]
  c_ReckonError : Addr
  c_BadNumber : Addr
  c_BadContext : Addr
  c_Trapped : Addr
  c_Number : Addr
  c_Ratio : Addr
  c_Way : Addr
  c_Down : Addr
  c_Up : Addr
  c_Floor : Addr
  c_Ceiling : Addr
  c_HalfUp : Addr
  c_HalfDown : Addr
  c_HalfEven : Addr
  c_FiveUp : Addr
  c_Context : Addr
  lc_law : Addr
  lp_law : Addr
  a_Trapped___init__ : Addr
  t_MOST_LEAD : Tok
  t_MOST_POWER : Tok
  t_MOST_ROOM : Tok
  ta_SIGNALS : Addr
  ta_WAYS : Addr
  hc_law : t_law.d.code = .ref lc_law
  m_ReckonError : mg "ReckonError" = some (.ref c_ReckonError)
  m_BadNumber : mg "BadNumber" = some (.ref c_BadNumber)
  m_BadContext : mg "BadContext" = some (.ref c_BadContext)
  m_Trapped : mg "Trapped" = some (.ref c_Trapped)
  m_Number : mg "Number" = some (.ref c_Number)
  i_Number : ClsI K c_Number
  mk_Number : Mk K c_Number t_Number___init__.a
  no_Number_kind : NoAttr K c_Number "kind"
  no_Number_sign : NoAttr K c_Number "sign"
  no_Number_figures : NoAttr K c_Number "figures"
  no_Number_power : NoAttr K c_Number "power"
  m_Ratio : mg "Ratio" = some (.ref c_Ratio)
  i_Ratio : ClsI K c_Ratio
  mk_Ratio : Mk K c_Ratio t_Ratio___init__.a
  no_Ratio_top : NoAttr K c_Ratio "top"
  no_Ratio_bottom : NoAttr K c_Ratio "bottom"
  no_Ratio_scale : NoAttr K c_Ratio "scale"
  m_Way : mg "Way" = some (.ref c_Way)
  i_Way : ClsI K c_Way
  m_Down : mg "Down" = some (.ref c_Down)
  i_Down : ClsI K c_Down
  m_Up : mg "Up" = some (.ref c_Up)
  i_Up : ClsI K c_Up
  m_Floor : mg "Floor" = some (.ref c_Floor)
  i_Floor : ClsI K c_Floor
  m_Ceiling : mg "Ceiling" = some (.ref c_Ceiling)
  i_Ceiling : ClsI K c_Ceiling
  m_HalfUp : mg "HalfUp" = some (.ref c_HalfUp)
  i_HalfUp : ClsI K c_HalfUp
  m_HalfDown : mg "HalfDown" = some (.ref c_HalfDown)
  i_HalfDown : ClsI K c_HalfDown
  m_HalfEven : mg "HalfEven" = some (.ref c_HalfEven)
  i_HalfEven : ClsI K c_HalfEven
  m_FiveUp : mg "FiveUp" = some (.ref c_FiveUp)
  i_FiveUp : ClsI K c_FiveUp
  m_Context : mg "Context" = some (.ref c_Context)
  i_Context : ClsI K c_Context
  mk_Context : Mk K c_Context t_Context___init__.a
  no_Context_manner : NoAttr K c_Context "manner"
  no_Context_room : NoAttr K c_Context "room"
  no_Context_least : NoAttr K c_Context "least"
  no_Context_most : NoAttr K c_Context "most"
  no_Context_standing : NoAttr K c_Context "standing"
  no_Context_caught : NoAttr K c_Context "caught"
  n_all : mg "all" = none
  n_bool : mg "bool" = none
  n_dict : mg "dict" = none
  n_divmod : mg "divmod" = none
  n_int : mg "int" = none
  n_isinstance : mg "isinstance" = none
  n_len : mg "len" = none
  n_list : mg "list" = none
  n_max : mg "max" = none
  n_min : mg "min" = none
  n_range : mg "range" = none
  n_str : mg "str" = none
  b_Context_4 : ∃ ds, Vals [] ds ∧ Binds K t_Context___init__.d ["self", "room", "way", "least", "most"] ds
  b_Number_4 : ∃ ds, Vals [] ds ∧ Binds K t_Number___init__.d ["self", "kind", "sign", "figures", "power"] ds
  b_Ratio_3 : ∃ ds, Vals [] ds ∧ Binds K t_Ratio___init__.d ["self", "top", "bottom", "power"] ds
  x_BadContext : ExcX K c_BadContext
  x_BadNumber : ExcX K c_BadNumber
  ec_Trapped : ExcC K c_Trapped
  exm_Trapped_Trapped : PySem.W.exmOne K (.ref c_Trapped) (.ref c_Trapped) = some true
  k0_Ceiling : Mk0 K c_Ceiling
  k0_Down : Mk0 K c_Down
  k0_FiveUp : Mk0 K c_FiveUp
  k0_Floor : Mk0 K c_Floor
  k0_HalfDown : Mk0 K c_HalfDown
  k0_HalfEven : Mk0 K c_HalfEven
  k0_HalfUp : Mk0 K c_HalfUp
  k0_Up : Mk0 K c_Up
  M_Ceiling_name : Meth K c_Ceiling "name" t_Ceiling_name.a
  M_Context_flags : Meth K c_Context "flags" t_Context_flags.a
  M_Context_lowest : Meth K c_Context "lowest" t_Context_lowest.a
  M_Context_raised : Meth K c_Context "raised" t_Context_raised.a
  M_Context_trap : Meth K c_Context "trap" t_Context_trap.a
  M_Context_traps : Meth K c_Context "traps" t_Context_traps.a
  M_Down_name : Meth K c_Down "name" t_Way_name.a
  M_FiveUp_name : Meth K c_FiveUp "name" t_FiveUp_name.a
  M_Floor_name : Meth K c_Floor "name" t_Floor_name.a
  M_HalfDown_name : Meth K c_HalfDown "name" t_HalfDown_name.a
  M_HalfEven_name : Meth K c_HalfEven "name" t_HalfEven_name.a
  M_HalfUp_name : Meth K c_HalfUp "name" t_HalfUp_name.a
  M_Ratio_at : Meth K c_Ratio "at" t_Ratio_at.a
  M_Up_name : Meth K c_Up "name" t_Up_name.a
  trap : PySem.TrapX.TrapTxt K mg c_Trapped a_Trapped___init__ c_ReckonError
  isi_Number_Number : PySem.W.kitOne K (.ref c_Number) (.ref c_Number) = some true
  g_MOST_LEAD : mg "MOST_LEAD" = some (.int 60 t_MOST_LEAD)
  g_MOST_POWER : mg "MOST_POWER" = some (.int 200 t_MOST_POWER)
  g_MOST_ROOM : mg "MOST_ROOM" = some (.int 24 t_MOST_ROOM)
  g_SIGNALS : mg "SIGNALS" = some (.ref ta_SIGNALS)
  k_SIGNALS : ∀ G : Hp, ∃ vs, SqT K G ta_SIGNALS vs ∧ Reps K G gl_SIGNALS vs
  g_WAYS : mg "WAYS" = some (.ref ta_WAYS)
  k_WAYS : ∀ G : Hp, ∃ vs, SqT K G ta_WAYS vs ∧ Reps K G gl_WAYS vs
abbrev Tx.a_is_whole {K : PySem.W.Frag} {mg : Str → Option Value} (T : Tx K mg) : Addr := T.t_is_whole.a
abbrev Tx.d_is_whole {K : PySem.W.Frag} {mg : Str → Option Value} (T : Tx K mg) : FuncData := T.t_is_whole.d
theorem Tx.m_is_whole {K : PySem.W.Frag} {mg : Str → Option Value} (T : Tx K mg) : mg "is_whole" = some (.ref T.a_is_whole) := T.t_is_whole.m
theorem Tx.F_is_whole {K : PySem.W.Frag} {mg : Str → Option Value} (T : Tx K mg) : Fun K "is_whole" "is_whole" s_is_whole T.a_is_whole T.d_is_whole := T.t_is_whole.F
theorem Tx.b_is_whole {K : PySem.W.Frag} {mg : Str → Option Value} (T : Tx K mg) : Binds K T.d_is_whole ["thing", "least", "most"] [] := T.t_is_whole.b
abbrev Tx.a_Number___init__ {K : PySem.W.Frag} {mg : Str → Option Value} (T : Tx K mg) : Addr := T.t_Number___init__.a
abbrev Tx.d_Number___init__ {K : PySem.W.Frag} {mg : Str → Option Value} (T : Tx K mg) : FuncData := T.t_Number___init__.d
theorem Tx.F_Number___init__ {K : PySem.W.Frag} {mg : Str → Option Value} (T : Tx K mg) : FunD K "__init__" "Number.__init__" (defArgs s_Number___init__) (defBody s_Number___init__) (defScope s_Number___init__) [] [] T.a_Number___init__ T.d_Number___init__ := T.t_Number___init__.F
abbrev Tx.a_plain {K : PySem.W.Frag} {mg : Str → Option Value} (T : Tx K mg) : Addr := T.t_plain.a
abbrev Tx.d_plain {K : PySem.W.Frag} {mg : Str → Option Value} (T : Tx K mg) : FuncData := T.t_plain.d
theorem Tx.m_plain {K : PySem.W.Frag} {mg : Str → Option Value} (T : Tx K mg) : mg "plain" = some (.ref T.a_plain) := T.t_plain.m
theorem Tx.F_plain {K : PySem.W.Frag} {mg : Str → Option Value} (T : Tx K mg) : Fun K "plain" "plain" s_plain T.a_plain T.d_plain := T.t_plain.F
theorem Tx.b_plain {K : PySem.W.Frag} {mg : Str → Option Value} (T : Tx K mg) : Binds K T.d_plain ["sign", "figures", "power"] [] := T.t_plain.b
abbrev Tx.a_end {K : PySem.W.Frag} {mg : Str → Option Value} (T : Tx K mg) : Addr := T.t_end.a
abbrev Tx.d_end {K : PySem.W.Frag} {mg : Str → Option Value} (T : Tx K mg) : FuncData := T.t_end.d
theorem Tx.m_end {K : PySem.W.Frag} {mg : Str → Option Value} (T : Tx K mg) : mg "end" = some (.ref T.a_end) := T.t_end.m
theorem Tx.F_end {K : PySem.W.Frag} {mg : Str → Option Value} (T : Tx K mg) : Fun K "end" "end" s_end T.a_end T.d_end := T.t_end.F
theorem Tx.b_end {K : PySem.W.Frag} {mg : Str → Option Value} (T : Tx K mg) : Binds K T.d_end ["sign"] [] := T.t_end.b
abbrev Tx.a_nothing {K : PySem.W.Frag} {mg : Str → Option Value} (T : Tx K mg) : Addr := T.t_nothing.a
abbrev Tx.d_nothing {K : PySem.W.Frag} {mg : Str → Option Value} (T : Tx K mg) : FuncData := T.t_nothing.d
theorem Tx.m_nothing {K : PySem.W.Frag} {mg : Str → Option Value} (T : Tx K mg) : mg "nothing" = some (.ref T.a_nothing) := T.t_nothing.m
theorem Tx.F_nothing {K : PySem.W.Frag} {mg : Str → Option Value} (T : Tx K mg) : Fun K "nothing" "nothing" s_nothing T.a_nothing T.d_nothing := T.t_nothing.F
theorem Tx.b_nothing {K : PySem.W.Frag} {mg : Str → Option Value} (T : Tx K mg) : Binds K T.d_nothing [] [] := T.t_nothing.b
abbrev Tx.a_need_number {K : PySem.W.Frag} {mg : Str → Option Value} (T : Tx K mg) : Addr := T.t_need_number.a
abbrev Tx.d_need_number {K : PySem.W.Frag} {mg : Str → Option Value} (T : Tx K mg) : FuncData := T.t_need_number.d
theorem Tx.m_need_number {K : PySem.W.Frag} {mg : Str → Option Value} (T : Tx K mg) : mg "need_number" = some (.ref T.a_need_number) := T.t_need_number.m
theorem Tx.F_need_number {K : PySem.W.Frag} {mg : Str → Option Value} (T : Tx K mg) : Fun K "need_number" "need_number" s_need_number T.a_need_number T.d_need_number := T.t_need_number.F
theorem Tx.b_need_number {K : PySem.W.Frag} {mg : Str → Option Value} (T : Tx K mg) : Binds K T.d_need_number ["thing"] [] := T.t_need_number.b
abbrev Tx.a_told {K : PySem.W.Frag} {mg : Str → Option Value} (T : Tx K mg) : Addr := T.t_told.a
abbrev Tx.d_told {K : PySem.W.Frag} {mg : Str → Option Value} (T : Tx K mg) : FuncData := T.t_told.d
theorem Tx.m_told {K : PySem.W.Frag} {mg : Str → Option Value} (T : Tx K mg) : mg "told" = some (.ref T.a_told) := T.t_told.m
theorem Tx.F_told {K : PySem.W.Frag} {mg : Str → Option Value} (T : Tx K mg) : Fun K "told" "told" s_told T.a_told T.d_told := T.t_told.F
theorem Tx.b_told {K : PySem.W.Frag} {mg : Str → Option Value} (T : Tx K mg) : Binds K T.d_told ["number"] [] := T.t_told.b
abbrev Tx.a_ten_to {K : PySem.W.Frag} {mg : Str → Option Value} (T : Tx K mg) : Addr := T.t_ten_to.a
abbrev Tx.d_ten_to {K : PySem.W.Frag} {mg : Str → Option Value} (T : Tx K mg) : FuncData := T.t_ten_to.d
theorem Tx.m_ten_to {K : PySem.W.Frag} {mg : Str → Option Value} (T : Tx K mg) : mg "ten_to" = some (.ref T.a_ten_to) := T.t_ten_to.m
theorem Tx.F_ten_to {K : PySem.W.Frag} {mg : Str → Option Value} (T : Tx K mg) : Fun K "ten_to" "ten_to" s_ten_to T.a_ten_to T.d_ten_to := T.t_ten_to.F
theorem Tx.b_ten_to {K : PySem.W.Frag} {mg : Str → Option Value} (T : Tx K mg) : Binds K T.d_ten_to ["power"] [] := T.t_ten_to.b
abbrev Tx.a_count_of {K : PySem.W.Frag} {mg : Str → Option Value} (T : Tx K mg) : Addr := T.t_count_of.a
abbrev Tx.d_count_of {K : PySem.W.Frag} {mg : Str → Option Value} (T : Tx K mg) : FuncData := T.t_count_of.d
theorem Tx.m_count_of {K : PySem.W.Frag} {mg : Str → Option Value} (T : Tx K mg) : mg "count_of" = some (.ref T.a_count_of) := T.t_count_of.m
theorem Tx.F_count_of {K : PySem.W.Frag} {mg : Str → Option Value} (T : Tx K mg) : Fun K "count_of" "count_of" s_count_of T.a_count_of T.d_count_of := T.t_count_of.F
theorem Tx.b_count_of {K : PySem.W.Frag} {mg : Str → Option Value} (T : Tx K mg) : Binds K T.d_count_of ["figures"] [] := T.t_count_of.b
abbrev Tx.a_lead_of {K : PySem.W.Frag} {mg : Str → Option Value} (T : Tx K mg) : Addr := T.t_lead_of.a
abbrev Tx.d_lead_of {K : PySem.W.Frag} {mg : Str → Option Value} (T : Tx K mg) : FuncData := T.t_lead_of.d
theorem Tx.m_lead_of {K : PySem.W.Frag} {mg : Str → Option Value} (T : Tx K mg) : mg "lead_of" = some (.ref T.a_lead_of) := T.t_lead_of.m
theorem Tx.F_lead_of {K : PySem.W.Frag} {mg : Str → Option Value} (T : Tx K mg) : Fun K "lead_of" "lead_of" s_lead_of T.a_lead_of T.d_lead_of := T.t_lead_of.F
theorem Tx.b_lead_of {K : PySem.W.Frag} {mg : Str → Option Value} (T : Tx K mg) : Binds K T.d_lead_of ["number"] [] := T.t_lead_of.b
abbrev Tx.a_part_of {K : PySem.W.Frag} {mg : Str → Option Value} (T : Tx K mg) : Addr := T.t_part_of.a
abbrev Tx.d_part_of {K : PySem.W.Frag} {mg : Str → Option Value} (T : Tx K mg) : FuncData := T.t_part_of.d
theorem Tx.m_part_of {K : PySem.W.Frag} {mg : Str → Option Value} (T : Tx K mg) : mg "part_of" = some (.ref T.a_part_of) := T.t_part_of.m
theorem Tx.F_part_of {K : PySem.W.Frag} {mg : Str → Option Value} (T : Tx K mg) : Fun K "part_of" "part_of" s_part_of T.a_part_of T.d_part_of := T.t_part_of.F
theorem Tx.b_part_of {K : PySem.W.Frag} {mg : Str → Option Value} (T : Tx K mg) : Binds K T.d_part_of ["rest", "bottom"] [] := T.t_part_of.b
abbrev Tx.a_Ratio___init__ {K : PySem.W.Frag} {mg : Str → Option Value} (T : Tx K mg) : Addr := T.t_Ratio___init__.a
abbrev Tx.d_Ratio___init__ {K : PySem.W.Frag} {mg : Str → Option Value} (T : Tx K mg) : FuncData := T.t_Ratio___init__.d
theorem Tx.F_Ratio___init__ {K : PySem.W.Frag} {mg : Str → Option Value} (T : Tx K mg) : FunD K "__init__" "Ratio.__init__" (defArgs s_Ratio___init__) (defBody s_Ratio___init__) (defScope s_Ratio___init__) [V.int 0] [] T.a_Ratio___init__ T.d_Ratio___init__ := T.t_Ratio___init__.F
abbrev Tx.a_Ratio_at {K : PySem.W.Frag} {mg : Str → Option Value} (T : Tx K mg) : Addr := T.t_Ratio_at.a
abbrev Tx.d_Ratio_at {K : PySem.W.Frag} {mg : Str → Option Value} (T : Tx K mg) : FuncData := T.t_Ratio_at.d
theorem Tx.F_Ratio_at {K : PySem.W.Frag} {mg : Str → Option Value} (T : Tx K mg) : Fun K "at" "Ratio.at" s_Ratio_at T.a_Ratio_at T.d_Ratio_at := T.t_Ratio_at.F
theorem Tx.b_Ratio_at {K : PySem.W.Frag} {mg : Str → Option Value} (T : Tx K mg) : Binds K T.d_Ratio_at ["self", "power"] [] := T.t_Ratio_at.b
abbrev Tx.a_Way_name {K : PySem.W.Frag} {mg : Str → Option Value} (T : Tx K mg) : Addr := T.t_Way_name.a
abbrev Tx.d_Way_name {K : PySem.W.Frag} {mg : Str → Option Value} (T : Tx K mg) : FuncData := T.t_Way_name.d
theorem Tx.F_Way_name {K : PySem.W.Frag} {mg : Str → Option Value} (T : Tx K mg) : Fun K "name" "Way.name" s_Way_name T.a_Way_name T.d_Way_name := T.t_Way_name.F
theorem Tx.b_Way_name {K : PySem.W.Frag} {mg : Str → Option Value} (T : Tx K mg) : Binds K T.d_Way_name ["self"] [] := T.t_Way_name.b
abbrev Tx.a_Up_name {K : PySem.W.Frag} {mg : Str → Option Value} (T : Tx K mg) : Addr := T.t_Up_name.a
abbrev Tx.d_Up_name {K : PySem.W.Frag} {mg : Str → Option Value} (T : Tx K mg) : FuncData := T.t_Up_name.d
theorem Tx.F_Up_name {K : PySem.W.Frag} {mg : Str → Option Value} (T : Tx K mg) : Fun K "name" "Up.name" s_Up_name T.a_Up_name T.d_Up_name := T.t_Up_name.F
theorem Tx.b_Up_name {K : PySem.W.Frag} {mg : Str → Option Value} (T : Tx K mg) : Binds K T.d_Up_name ["self"] [] := T.t_Up_name.b
abbrev Tx.a_Floor_name {K : PySem.W.Frag} {mg : Str → Option Value} (T : Tx K mg) : Addr := T.t_Floor_name.a
abbrev Tx.d_Floor_name {K : PySem.W.Frag} {mg : Str → Option Value} (T : Tx K mg) : FuncData := T.t_Floor_name.d
theorem Tx.F_Floor_name {K : PySem.W.Frag} {mg : Str → Option Value} (T : Tx K mg) : Fun K "name" "Floor.name" s_Floor_name T.a_Floor_name T.d_Floor_name := T.t_Floor_name.F
theorem Tx.b_Floor_name {K : PySem.W.Frag} {mg : Str → Option Value} (T : Tx K mg) : Binds K T.d_Floor_name ["self"] [] := T.t_Floor_name.b
abbrev Tx.a_Ceiling_name {K : PySem.W.Frag} {mg : Str → Option Value} (T : Tx K mg) : Addr := T.t_Ceiling_name.a
abbrev Tx.d_Ceiling_name {K : PySem.W.Frag} {mg : Str → Option Value} (T : Tx K mg) : FuncData := T.t_Ceiling_name.d
theorem Tx.F_Ceiling_name {K : PySem.W.Frag} {mg : Str → Option Value} (T : Tx K mg) : Fun K "name" "Ceiling.name" s_Ceiling_name T.a_Ceiling_name T.d_Ceiling_name := T.t_Ceiling_name.F
theorem Tx.b_Ceiling_name {K : PySem.W.Frag} {mg : Str → Option Value} (T : Tx K mg) : Binds K T.d_Ceiling_name ["self"] [] := T.t_Ceiling_name.b
abbrev Tx.a_HalfUp_name {K : PySem.W.Frag} {mg : Str → Option Value} (T : Tx K mg) : Addr := T.t_HalfUp_name.a
abbrev Tx.d_HalfUp_name {K : PySem.W.Frag} {mg : Str → Option Value} (T : Tx K mg) : FuncData := T.t_HalfUp_name.d
theorem Tx.F_HalfUp_name {K : PySem.W.Frag} {mg : Str → Option Value} (T : Tx K mg) : Fun K "name" "HalfUp.name" s_HalfUp_name T.a_HalfUp_name T.d_HalfUp_name := T.t_HalfUp_name.F
theorem Tx.b_HalfUp_name {K : PySem.W.Frag} {mg : Str → Option Value} (T : Tx K mg) : Binds K T.d_HalfUp_name ["self"] [] := T.t_HalfUp_name.b
abbrev Tx.a_HalfDown_name {K : PySem.W.Frag} {mg : Str → Option Value} (T : Tx K mg) : Addr := T.t_HalfDown_name.a
abbrev Tx.d_HalfDown_name {K : PySem.W.Frag} {mg : Str → Option Value} (T : Tx K mg) : FuncData := T.t_HalfDown_name.d
theorem Tx.F_HalfDown_name {K : PySem.W.Frag} {mg : Str → Option Value} (T : Tx K mg) : Fun K "name" "HalfDown.name" s_HalfDown_name T.a_HalfDown_name T.d_HalfDown_name := T.t_HalfDown_name.F
theorem Tx.b_HalfDown_name {K : PySem.W.Frag} {mg : Str → Option Value} (T : Tx K mg) : Binds K T.d_HalfDown_name ["self"] [] := T.t_HalfDown_name.b
abbrev Tx.a_HalfEven_name {K : PySem.W.Frag} {mg : Str → Option Value} (T : Tx K mg) : Addr := T.t_HalfEven_name.a
abbrev Tx.d_HalfEven_name {K : PySem.W.Frag} {mg : Str → Option Value} (T : Tx K mg) : FuncData := T.t_HalfEven_name.d
theorem Tx.F_HalfEven_name {K : PySem.W.Frag} {mg : Str → Option Value} (T : Tx K mg) : Fun K "name" "HalfEven.name" s_HalfEven_name T.a_HalfEven_name T.d_HalfEven_name := T.t_HalfEven_name.F
theorem Tx.b_HalfEven_name {K : PySem.W.Frag} {mg : Str → Option Value} (T : Tx K mg) : Binds K T.d_HalfEven_name ["self"] [] := T.t_HalfEven_name.b
abbrev Tx.a_FiveUp_name {K : PySem.W.Frag} {mg : Str → Option Value} (T : Tx K mg) : Addr := T.t_FiveUp_name.a
abbrev Tx.d_FiveUp_name {K : PySem.W.Frag} {mg : Str → Option Value} (T : Tx K mg) : FuncData := T.t_FiveUp_name.d
theorem Tx.F_FiveUp_name {K : PySem.W.Frag} {mg : Str → Option Value} (T : Tx K mg) : Fun K "name" "FiveUp.name" s_FiveUp_name T.a_FiveUp_name T.d_FiveUp_name := T.t_FiveUp_name.F
theorem Tx.b_FiveUp_name {K : PySem.W.Frag} {mg : Str → Option Value} (T : Tx K mg) : Binds K T.d_FiveUp_name ["self"] [] := T.t_FiveUp_name.b
abbrev Tx.a_half_way {K : PySem.W.Frag} {mg : Str → Option Value} (T : Tx K mg) : Addr := T.t_half_way.a
abbrev Tx.d_half_way {K : PySem.W.Frag} {mg : Str → Option Value} (T : Tx K mg) : FuncData := T.t_half_way.d
theorem Tx.m_half_way {K : PySem.W.Frag} {mg : Str → Option Value} (T : Tx K mg) : mg "half_way" = some (.ref T.a_half_way) := T.t_half_way.m
theorem Tx.F_half_way {K : PySem.W.Frag} {mg : Str → Option Value} (T : Tx K mg) : Fun K "half_way" "half_way" s_half_way T.a_half_way T.d_half_way := T.t_half_way.F
theorem Tx.b_half_way {K : PySem.W.Frag} {mg : Str → Option Value} (T : Tx K mg) : Binds K T.d_half_way ["name"] [] := T.t_half_way.b
abbrev Tx.a_way_of {K : PySem.W.Frag} {mg : Str → Option Value} (T : Tx K mg) : Addr := T.t_way_of.a
abbrev Tx.d_way_of {K : PySem.W.Frag} {mg : Str → Option Value} (T : Tx K mg) : FuncData := T.t_way_of.d
theorem Tx.m_way_of {K : PySem.W.Frag} {mg : Str → Option Value} (T : Tx K mg) : mg "way_of" = some (.ref T.a_way_of) := T.t_way_of.m
theorem Tx.F_way_of {K : PySem.W.Frag} {mg : Str → Option Value} (T : Tx K mg) : Fun K "way_of" "way_of" s_way_of T.a_way_of T.d_way_of := T.t_way_of.F
theorem Tx.b_way_of {K : PySem.W.Frag} {mg : Str → Option Value} (T : Tx K mg) : Binds K T.d_way_of ["name"] [] := T.t_way_of.b
abbrev Tx.a_need {K : PySem.W.Frag} {mg : Str → Option Value} (T : Tx K mg) : Addr := T.t_need.a
abbrev Tx.d_need {K : PySem.W.Frag} {mg : Str → Option Value} (T : Tx K mg) : FuncData := T.t_need.d
theorem Tx.m_need {K : PySem.W.Frag} {mg : Str → Option Value} (T : Tx K mg) : mg "need" = some (.ref T.a_need) := T.t_need.m
theorem Tx.F_need {K : PySem.W.Frag} {mg : Str → Option Value} (T : Tx K mg) : Fun K "need" "need" s_need T.a_need T.d_need := T.t_need.F
theorem Tx.b_need {K : PySem.W.Frag} {mg : Str → Option Value} (T : Tx K mg) : Binds K T.d_need ["good"] [] := T.t_need.b
abbrev Tx.a_is_signal {K : PySem.W.Frag} {mg : Str → Option Value} (T : Tx K mg) : Addr := T.t_is_signal.a
abbrev Tx.d_is_signal {K : PySem.W.Frag} {mg : Str → Option Value} (T : Tx K mg) : FuncData := T.t_is_signal.d
theorem Tx.m_is_signal {K : PySem.W.Frag} {mg : Str → Option Value} (T : Tx K mg) : mg "is_signal" = some (.ref T.a_is_signal) := T.t_is_signal.m
theorem Tx.F_is_signal {K : PySem.W.Frag} {mg : Str → Option Value} (T : Tx K mg) : Fun K "is_signal" "is_signal" s_is_signal T.a_is_signal T.d_is_signal := T.t_is_signal.F
theorem Tx.b_is_signal {K : PySem.W.Frag} {mg : Str → Option Value} (T : Tx K mg) : Binds K T.d_is_signal ["thing"] [] := T.t_is_signal.b
abbrev Tx.a_Context___init__ {K : PySem.W.Frag} {mg : Str → Option Value} (T : Tx K mg) : Addr := T.t_Context___init__.a
abbrev Tx.d_Context___init__ {K : PySem.W.Frag} {mg : Str → Option Value} (T : Tx K mg) : FuncData := T.t_Context___init__.d
theorem Tx.F_Context___init__ {K : PySem.W.Frag} {mg : Str → Option Value} (T : Tx K mg) : FunD K "__init__" "Context.__init__" (defArgs s_Context___init__) (defBody s_Context___init__) (defScope s_Context___init__) [V.int 9, V.str "half even", V.non, V.int 60] [] T.a_Context___init__ T.d_Context___init__ := T.t_Context___init__.F
abbrev Tx.a_Context_lowest {K : PySem.W.Frag} {mg : Str → Option Value} (T : Tx K mg) : Addr := T.t_Context_lowest.a
abbrev Tx.d_Context_lowest {K : PySem.W.Frag} {mg : Str → Option Value} (T : Tx K mg) : FuncData := T.t_Context_lowest.d
theorem Tx.F_Context_lowest {K : PySem.W.Frag} {mg : Str → Option Value} (T : Tx K mg) : Fun K "lowest" "Context.lowest" s_Context_lowest T.a_Context_lowest T.d_Context_lowest := T.t_Context_lowest.F
theorem Tx.b_Context_lowest {K : PySem.W.Frag} {mg : Str → Option Value} (T : Tx K mg) : Binds K T.d_Context_lowest ["self"] [] := T.t_Context_lowest.b
abbrev Tx.a_Context_flags {K : PySem.W.Frag} {mg : Str → Option Value} (T : Tx K mg) : Addr := T.t_Context_flags.a
abbrev Tx.d_Context_flags {K : PySem.W.Frag} {mg : Str → Option Value} (T : Tx K mg) : FuncData := T.t_Context_flags.d
theorem Tx.F_Context_flags {K : PySem.W.Frag} {mg : Str → Option Value} (T : Tx K mg) : Fun K "flags" "Context.flags" s_Context_flags T.a_Context_flags T.d_Context_flags := T.t_Context_flags.F
theorem Tx.b_Context_flags {K : PySem.W.Frag} {mg : Str → Option Value} (T : Tx K mg) : Binds K T.d_Context_flags ["self"] [] := T.t_Context_flags.b
abbrev Tx.a_Context_trap {K : PySem.W.Frag} {mg : Str → Option Value} (T : Tx K mg) : Addr := T.t_Context_trap.a
abbrev Tx.d_Context_trap {K : PySem.W.Frag} {mg : Str → Option Value} (T : Tx K mg) : FuncData := T.t_Context_trap.d
theorem Tx.F_Context_trap {K : PySem.W.Frag} {mg : Str → Option Value} (T : Tx K mg) : Fun K "trap" "Context.trap" s_Context_trap T.a_Context_trap T.d_Context_trap := T.t_Context_trap.F
theorem Tx.b_Context_trap {K : PySem.W.Frag} {mg : Str → Option Value} (T : Tx K mg) : Binds K T.d_Context_trap ["self", "names"] [] := T.t_Context_trap.b
abbrev Tx.a_Context_traps {K : PySem.W.Frag} {mg : Str → Option Value} (T : Tx K mg) : Addr := T.t_Context_traps.a
abbrev Tx.d_Context_traps {K : PySem.W.Frag} {mg : Str → Option Value} (T : Tx K mg) : FuncData := T.t_Context_traps.d
theorem Tx.F_Context_traps {K : PySem.W.Frag} {mg : Str → Option Value} (T : Tx K mg) : Fun K "traps" "Context.traps" s_Context_traps T.a_Context_traps T.d_Context_traps := T.t_Context_traps.F
theorem Tx.b_Context_traps {K : PySem.W.Frag} {mg : Str → Option Value} (T : Tx K mg) : Binds K T.d_Context_traps ["self"] [] := T.t_Context_traps.b
abbrev Tx.a_Context_raised {K : PySem.W.Frag} {mg : Str → Option Value} (T : Tx K mg) : Addr := T.t_Context_raised.a
abbrev Tx.d_Context_raised {K : PySem.W.Frag} {mg : Str → Option Value} (T : Tx K mg) : FuncData := T.t_Context_raised.d
theorem Tx.F_Context_raised {K : PySem.W.Frag} {mg : Str → Option Value} (T : Tx K mg) : Fun K "raised" "Context.raised" s_Context_raised T.a_Context_raised T.d_Context_raised := T.t_Context_raised.F
theorem Tx.b_Context_raised {K : PySem.W.Frag} {mg : Str → Option Value} (T : Tx K mg) : Binds K T.d_Context_raised ["self", "names"] [] := T.t_Context_raised.b
abbrev Tx.a_greatest_of {K : PySem.W.Frag} {mg : Str → Option Value} (T : Tx K mg) : Addr := T.t_greatest_of.a
abbrev Tx.d_greatest_of {K : PySem.W.Frag} {mg : Str → Option Value} (T : Tx K mg) : FuncData := T.t_greatest_of.d
theorem Tx.m_greatest_of {K : PySem.W.Frag} {mg : Str → Option Value} (T : Tx K mg) : mg "greatest_of" = some (.ref T.a_greatest_of) := T.t_greatest_of.m
theorem Tx.F_greatest_of {K : PySem.W.Frag} {mg : Str → Option Value} (T : Tx K mg) : Fun K "greatest_of" "greatest_of" s_greatest_of T.a_greatest_of T.d_greatest_of := T.t_greatest_of.F
theorem Tx.b_greatest_of {K : PySem.W.Frag} {mg : Str → Option Value} (T : Tx K mg) : Binds K T.d_greatest_of ["context", "sign"] [] := T.t_greatest_of.b
abbrev Tx.a_last_place {K : PySem.W.Frag} {mg : Str → Option Value} (T : Tx K mg) : Addr := T.t_last_place.a
abbrev Tx.d_last_place {K : PySem.W.Frag} {mg : Str → Option Value} (T : Tx K mg) : FuncData := T.t_last_place.d
theorem Tx.m_last_place {K : PySem.W.Frag} {mg : Str → Option Value} (T : Tx K mg) : mg "last_place" = some (.ref T.a_last_place) := T.t_last_place.m
theorem Tx.F_last_place {K : PySem.W.Frag} {mg : Str → Option Value} (T : Tx K mg) : Fun K "last_place" "last_place" s_last_place T.a_last_place T.d_last_place := T.t_last_place.F
theorem Tx.b_last_place {K : PySem.W.Frag} {mg : Str → Option Value} (T : Tx K mg) : Binds K T.d_last_place ["context", "one"] [] := T.t_last_place.b
abbrev Tx.a_one_farther {K : PySem.W.Frag} {mg : Str → Option Value} (T : Tx K mg) : Addr := T.t_one_farther.a
abbrev Tx.d_one_farther {K : PySem.W.Frag} {mg : Str → Option Value} (T : Tx K mg) : FuncData := T.t_one_farther.d
theorem Tx.m_one_farther {K : PySem.W.Frag} {mg : Str → Option Value} (T : Tx K mg) : mg "one_farther" = some (.ref T.a_one_farther) := T.t_one_farther.m
theorem Tx.F_one_farther {K : PySem.W.Frag} {mg : Str → Option Value} (T : Tx K mg) : Fun K "one_farther" "one_farther" s_one_farther T.a_one_farther T.d_one_farther := T.t_one_farther.F
theorem Tx.b_one_farther {K : PySem.W.Frag} {mg : Str → Option Value} (T : Tx K mg) : Binds K T.d_one_farther ["context", "one", "sign"] [] := T.t_one_farther.b
abbrev Tx.a_one_nearer {K : PySem.W.Frag} {mg : Str → Option Value} (T : Tx K mg) : Addr := T.t_one_nearer.a
abbrev Tx.d_one_nearer {K : PySem.W.Frag} {mg : Str → Option Value} (T : Tx K mg) : FuncData := T.t_one_nearer.d
theorem Tx.m_one_nearer {K : PySem.W.Frag} {mg : Str → Option Value} (T : Tx K mg) : mg "one_nearer" = some (.ref T.a_one_nearer) := T.t_one_nearer.m
theorem Tx.F_one_nearer {K : PySem.W.Frag} {mg : Str → Option Value} (T : Tx K mg) : Fun K "one_nearer" "one_nearer" s_one_nearer T.a_one_nearer T.d_one_nearer := T.t_one_nearer.F
theorem Tx.b_one_nearer {K : PySem.W.Frag} {mg : Str → Option Value} (T : Tx K mg) : Binds K T.d_one_nearer ["context", "one"] [] := T.t_one_nearer.b
abbrev Tx.a_next_to {K : PySem.W.Frag} {mg : Str → Option Value} (T : Tx K mg) : Addr := T.t_next_to.a
abbrev Tx.d_next_to {K : PySem.W.Frag} {mg : Str → Option Value} (T : Tx K mg) : FuncData := T.t_next_to.d
theorem Tx.m_next_to {K : PySem.W.Frag} {mg : Str → Option Value} (T : Tx K mg) : mg "next_to" = some (.ref T.a_next_to) := T.t_next_to.m
theorem Tx.F_next_to {K : PySem.W.Frag} {mg : Str → Option Value} (T : Tx K mg) : Fun K "next_to" "next_to" s_next_to T.a_next_to T.d_next_to := T.t_next_to.F
theorem Tx.b_next_to {K : PySem.W.Frag} {mg : Str → Option Value} (T : Tx K mg) : Binds K T.d_next_to ["context", "one", "sign"] [] := T.t_next_to.b
abbrev Tx.a_next_up {K : PySem.W.Frag} {mg : Str → Option Value} (T : Tx K mg) : Addr := T.t_next_up.a
abbrev Tx.d_next_up {K : PySem.W.Frag} {mg : Str → Option Value} (T : Tx K mg) : FuncData := T.t_next_up.d
theorem Tx.m_next_up {K : PySem.W.Frag} {mg : Str → Option Value} (T : Tx K mg) : mg "next_up" = some (.ref T.a_next_up) := T.t_next_up.m
theorem Tx.F_next_up {K : PySem.W.Frag} {mg : Str → Option Value} (T : Tx K mg) : Fun K "next_up" "next_up" s_next_up T.a_next_up T.d_next_up := T.t_next_up.F
theorem Tx.b_next_up {K : PySem.W.Frag} {mg : Str → Option Value} (T : Tx K mg) : Binds K T.d_next_up ["context", "one"] [] := T.t_next_up.b
abbrev Tx.a_next_down {K : PySem.W.Frag} {mg : Str → Option Value} (T : Tx K mg) : Addr := T.t_next_down.a
abbrev Tx.d_next_down {K : PySem.W.Frag} {mg : Str → Option Value} (T : Tx K mg) : FuncData := T.t_next_down.d
theorem Tx.m_next_down {K : PySem.W.Frag} {mg : Str → Option Value} (T : Tx K mg) : mg "next_down" = some (.ref T.a_next_down) := T.t_next_down.m
theorem Tx.F_next_down {K : PySem.W.Frag} {mg : Str → Option Value} (T : Tx K mg) : Fun K "next_down" "next_down" s_next_down T.a_next_down T.d_next_down := T.t_next_down.F
theorem Tx.b_next_down {K : PySem.W.Frag} {mg : Str → Option Value} (T : Tx K mg) : Binds K T.d_next_down ["context", "one"] [] := T.t_next_down.b
abbrev Tx.a__law_cell_at {K : PySem.W.Frag} {mg : Str → Option Value} (T : Tx K mg) : Addr := T.t__law_cell_at.a
abbrev Tx.d__law_cell_at {K : PySem.W.Frag} {mg : Str → Option Value} (T : Tx K mg) : FuncData := T.t__law_cell_at.d
theorem Tx.m__law_cell_at {K : PySem.W.Frag} {mg : Str → Option Value} (T : Tx K mg) : mg "_law_cell_at" = some (.ref T.a__law_cell_at) := T.t__law_cell_at.m
theorem Tx.F__law_cell_at {K : PySem.W.Frag} {mg : Str → Option Value} (T : Tx K mg) : Fun K "_law_cell_at" "_law_cell_at" s__law_cell_at T.a__law_cell_at T.d__law_cell_at := T.t__law_cell_at.F
theorem Tx.b__law_cell_at {K : PySem.W.Frag} {mg : Str → Option Value} (T : Tx K mg) : Binds K T.d__law_cell_at ["_law_script", "_law_k"] [] := T.t__law_cell_at.b
abbrev Tx.a__law_mixed {K : PySem.W.Frag} {mg : Str → Option Value} (T : Tx K mg) : Addr := T.t__law_mixed.a
abbrev Tx.d__law_mixed {K : PySem.W.Frag} {mg : Str → Option Value} (T : Tx K mg) : FuncData := T.t__law_mixed.d
theorem Tx.m__law_mixed {K : PySem.W.Frag} {mg : Str → Option Value} (T : Tx K mg) : mg "_law_mixed" = some (.ref T.a__law_mixed) := T.t__law_mixed.m
theorem Tx.F__law_mixed {K : PySem.W.Frag} {mg : Str → Option Value} (T : Tx K mg) : Fun K "_law_mixed" "_law_mixed" s__law_mixed T.a__law_mixed T.d__law_mixed := T.t__law_mixed.F
theorem Tx.b__law_mixed {K : PySem.W.Frag} {mg : Str → Option Value} (T : Tx K mg) : Binds K T.d__law_mixed ["_law_cell", "_law_k"] [] := T.t__law_mixed.b
abbrev Tx.a__law_ten {K : PySem.W.Frag} {mg : Str → Option Value} (T : Tx K mg) : Addr := T.t__law_ten.a
abbrev Tx.d__law_ten {K : PySem.W.Frag} {mg : Str → Option Value} (T : Tx K mg) : FuncData := T.t__law_ten.d
theorem Tx.m__law_ten {K : PySem.W.Frag} {mg : Str → Option Value} (T : Tx K mg) : mg "_law_ten" = some (.ref T.a__law_ten) := T.t__law_ten.m
theorem Tx.F__law_ten {K : PySem.W.Frag} {mg : Str → Option Value} (T : Tx K mg) : Fun K "_law_ten" "_law_ten" s__law_ten T.a__law_ten T.d__law_ten := T.t__law_ten.F
theorem Tx.b__law_ten {K : PySem.W.Frag} {mg : Str → Option Value} (T : Tx K mg) : Binds K T.d__law_ten ["_law_count"] [] := T.t__law_ten.b
abbrev Tx.a__law_figures {K : PySem.W.Frag} {mg : Str → Option Value} (T : Tx K mg) : Addr := T.t__law_figures.a
abbrev Tx.d__law_figures {K : PySem.W.Frag} {mg : Str → Option Value} (T : Tx K mg) : FuncData := T.t__law_figures.d
theorem Tx.m__law_figures {K : PySem.W.Frag} {mg : Str → Option Value} (T : Tx K mg) : mg "_law_figures" = some (.ref T.a__law_figures) := T.t__law_figures.m
theorem Tx.F__law_figures {K : PySem.W.Frag} {mg : Str → Option Value} (T : Tx K mg) : Fun K "_law_figures" "_law_figures" s__law_figures T.a__law_figures T.d__law_figures := T.t__law_figures.F
theorem Tx.b__law_figures {K : PySem.W.Frag} {mg : Str → Option Value} (T : Tx K mg) : Binds K T.d__law_figures ["_law_cell", "_law_way"] [] := T.t__law_figures.b
abbrev Tx.a__law_number {K : PySem.W.Frag} {mg : Str → Option Value} (T : Tx K mg) : Addr := T.t__law_number.a
abbrev Tx.d__law_number {K : PySem.W.Frag} {mg : Str → Option Value} (T : Tx K mg) : FuncData := T.t__law_number.d
theorem Tx.m__law_number {K : PySem.W.Frag} {mg : Str → Option Value} (T : Tx K mg) : mg "_law_number" = some (.ref T.a__law_number) := T.t__law_number.m
theorem Tx.F__law_number {K : PySem.W.Frag} {mg : Str → Option Value} (T : Tx K mg) : Fun K "_law_number" "_law_number" s__law_number T.a__law_number T.d__law_number := T.t__law_number.F
theorem Tx.b__law_number {K : PySem.W.Frag} {mg : Str → Option Value} (T : Tx K mg) : Binds K T.d__law_number ["_law_cell"] [] := T.t__law_number.b
abbrev Tx.a__law_made {K : PySem.W.Frag} {mg : Str → Option Value} (T : Tx K mg) : Addr := T.t__law_made.a
abbrev Tx.d__law_made {K : PySem.W.Frag} {mg : Str → Option Value} (T : Tx K mg) : FuncData := T.t__law_made.d
theorem Tx.m__law_made {K : PySem.W.Frag} {mg : Str → Option Value} (T : Tx K mg) : mg "_law_made" = some (.ref T.a__law_made) := T.t__law_made.m
theorem Tx.F__law_made {K : PySem.W.Frag} {mg : Str → Option Value} (T : Tx K mg) : Fun K "_law_made" "_law_made" s__law_made T.a__law_made T.d__law_made := T.t__law_made.F
theorem Tx.b__law_made {K : PySem.W.Frag} {mg : Str → Option Value} (T : Tx K mg) : Binds K T.d__law_made ["_law_one"] [] := T.t__law_made.b
abbrev Tx.a__law_own {K : PySem.W.Frag} {mg : Str → Option Value} (T : Tx K mg) : Addr := T.t__law_own.a
abbrev Tx.d__law_own {K : PySem.W.Frag} {mg : Str → Option Value} (T : Tx K mg) : FuncData := T.t__law_own.d
theorem Tx.m__law_own {K : PySem.W.Frag} {mg : Str → Option Value} (T : Tx K mg) : mg "_law_own" = some (.ref T.a__law_own) := T.t__law_own.m
theorem Tx.F__law_own {K : PySem.W.Frag} {mg : Str → Option Value} (T : Tx K mg) : Fun K "_law_own" "_law_own" s__law_own T.a__law_own T.d__law_own := T.t__law_own.F
theorem Tx.b__law_own {K : PySem.W.Frag} {mg : Str → Option Value} (T : Tx K mg) : Binds K T.d__law_own ["_law_cell"] [] := T.t__law_own.b
abbrev Tx.a__law_context {K : PySem.W.Frag} {mg : Str → Option Value} (T : Tx K mg) : Addr := T.t__law_context.a
abbrev Tx.d__law_context {K : PySem.W.Frag} {mg : Str → Option Value} (T : Tx K mg) : FuncData := T.t__law_context.d
theorem Tx.m__law_context {K : PySem.W.Frag} {mg : Str → Option Value} (T : Tx K mg) : mg "_law_context" = some (.ref T.a__law_context) := T.t__law_context.m
theorem Tx.F__law_context {K : PySem.W.Frag} {mg : Str → Option Value} (T : Tx K mg) : Fun K "_law_context" "_law_context" s__law_context T.a__law_context T.d__law_context := T.t__law_context.F
theorem Tx.b__law_context {K : PySem.W.Frag} {mg : Str → Option Value} (T : Tx K mg) : Binds K T.d__law_context ["_law_own_here"] [] := T.t__law_context.b
abbrev Tx.a__law_gone {K : PySem.W.Frag} {mg : Str → Option Value} (T : Tx K mg) : Addr := T.t__law_gone.a
abbrev Tx.d__law_gone {K : PySem.W.Frag} {mg : Str → Option Value} (T : Tx K mg) : FuncData := T.t__law_gone.d
theorem Tx.m__law_gone {K : PySem.W.Frag} {mg : Str → Option Value} (T : Tx K mg) : mg "_law_gone" = some (.ref T.a__law_gone) := T.t__law_gone.m
theorem Tx.F__law_gone {K : PySem.W.Frag} {mg : Str → Option Value} (T : Tx K mg) : Fun K "_law_gone" "_law_gone" s__law_gone T.a__law_gone T.d__law_gone := T.t__law_gone.F
theorem Tx.b__law_gone {K : PySem.W.Frag} {mg : Str → Option Value} (T : Tx K mg) : Binds K T.d__law_gone ["_law_context_here", "_law_number_here", "_law_sign"] [] := T.t__law_gone.b
abbrev Tx.a__law_tried {K : PySem.W.Frag} {mg : Str → Option Value} (T : Tx K mg) : Addr := T.t__law_tried.a
abbrev Tx.d__law_tried {K : PySem.W.Frag} {mg : Str → Option Value} (T : Tx K mg) : FuncData := T.t__law_tried.d
theorem Tx.m__law_tried {K : PySem.W.Frag} {mg : Str → Option Value} (T : Tx K mg) : mg "_law_tried" = some (.ref T.a__law_tried) := T.t__law_tried.m
theorem Tx.F__law_tried {K : PySem.W.Frag} {mg : Str → Option Value} (T : Tx K mg) : Fun K "_law_tried" "_law_tried" s__law_tried T.a__law_tried T.d__law_tried := T.t__law_tried.F
theorem Tx.b__law_tried {K : PySem.W.Frag} {mg : Str → Option Value} (T : Tx K mg) : Binds K T.d__law_tried ["_law_deed"] [] := T.t__law_tried.b
abbrev Tx.a__law_stands {K : PySem.W.Frag} {mg : Str → Option Value} (T : Tx K mg) : Addr := T.t__law_stands.a
abbrev Tx.d__law_stands {K : PySem.W.Frag} {mg : Str → Option Value} (T : Tx K mg) : FuncData := T.t__law_stands.d
theorem Tx.m__law_stands {K : PySem.W.Frag} {mg : Str → Option Value} (T : Tx K mg) : mg "_law_stands" = some (.ref T.a__law_stands) := T.t__law_stands.m
theorem Tx.F__law_stands {K : PySem.W.Frag} {mg : Str → Option Value} (T : Tx K mg) : Fun K "_law_stands" "_law_stands" s__law_stands T.a__law_stands T.d__law_stands := T.t__law_stands.F
theorem Tx.b__law_stands {K : PySem.W.Frag} {mg : Str → Option Value} (T : Tx K mg) : Binds K T.d__law_stands ["_law_context_here", "_law_own_here", "_law_deed", "_law_due_here"] [] := T.t__law_stands.b
abbrev Tx.a__law_shown {K : PySem.W.Frag} {mg : Str → Option Value} (T : Tx K mg) : Addr := T.t__law_shown.a
abbrev Tx.d__law_shown {K : PySem.W.Frag} {mg : Str → Option Value} (T : Tx K mg) : FuncData := T.t__law_shown.d
theorem Tx.m__law_shown {K : PySem.W.Frag} {mg : Str → Option Value} (T : Tx K mg) : mg "_law_shown" = some (.ref T.a__law_shown) := T.t__law_shown.m
theorem Tx.F__law_shown {K : PySem.W.Frag} {mg : Str → Option Value} (T : Tx K mg) : Fun K "_law_shown" "_law_shown" s__law_shown T.a__law_shown T.d__law_shown := T.t__law_shown.F
theorem Tx.b__law_shown {K : PySem.W.Frag} {mg : Str → Option Value} (T : Tx K mg) : Binds K T.d__law_shown ["_law_own_here", "_law_sign", "_law_many"] [] := T.t__law_shown.b
abbrev Tx.a__law_most {K : PySem.W.Frag} {mg : Str → Option Value} (T : Tx K mg) : Addr := T.t__law_most.a
abbrev Tx.d__law_most {K : PySem.W.Frag} {mg : Str → Option Value} (T : Tx K mg) : FuncData := T.t__law_most.d
theorem Tx.m__law_most {K : PySem.W.Frag} {mg : Str → Option Value} (T : Tx K mg) : mg "_law_most" = some (.ref T.a__law_most) := T.t__law_most.m
theorem Tx.F__law_most {K : PySem.W.Frag} {mg : Str → Option Value} (T : Tx K mg) : Fun K "_law_most" "_law_most" s__law_most T.a__law_most T.d__law_most := T.t__law_most.F
theorem Tx.b__law_most {K : PySem.W.Frag} {mg : Str → Option Value} (T : Tx K mg) : Binds K T.d__law_most ["_law_own_here"] [] := T.t__law_most.b
abbrev Tx.a__law_grid {K : PySem.W.Frag} {mg : Str → Option Value} (T : Tx K mg) : Addr := T.t__law_grid.a
abbrev Tx.d__law_grid {K : PySem.W.Frag} {mg : Str → Option Value} (T : Tx K mg) : FuncData := T.t__law_grid.d
theorem Tx.m__law_grid {K : PySem.W.Frag} {mg : Str → Option Value} (T : Tx K mg) : mg "_law_grid" = some (.ref T.a__law_grid) := T.t__law_grid.m
theorem Tx.F__law_grid {K : PySem.W.Frag} {mg : Str → Option Value} (T : Tx K mg) : Fun K "_law_grid" "_law_grid" s__law_grid T.a__law_grid T.d__law_grid := T.t__law_grid.F
theorem Tx.b__law_grid {K : PySem.W.Frag} {mg : Str → Option Value} (T : Tx K mg) : Binds K T.d__law_grid ["_law_own_here", "_law_one"] [] := T.t__law_grid.b
abbrev Tx.a__law_farther {K : PySem.W.Frag} {mg : Str → Option Value} (T : Tx K mg) : Addr := T.t__law_farther.a
abbrev Tx.d__law_farther {K : PySem.W.Frag} {mg : Str → Option Value} (T : Tx K mg) : FuncData := T.t__law_farther.d
theorem Tx.m__law_farther {K : PySem.W.Frag} {mg : Str → Option Value} (T : Tx K mg) : mg "_law_farther" = some (.ref T.a__law_farther) := T.t__law_farther.m
theorem Tx.F__law_farther {K : PySem.W.Frag} {mg : Str → Option Value} (T : Tx K mg) : Fun K "_law_farther" "_law_farther" s__law_farther T.a__law_farther T.d__law_farther := T.t__law_farther.F
theorem Tx.b__law_farther {K : PySem.W.Frag} {mg : Str → Option Value} (T : Tx K mg) : Binds K T.d__law_farther ["_law_own_here", "_law_one", "_law_sign"] [] := T.t__law_farther.b
abbrev Tx.a__law_nearer {K : PySem.W.Frag} {mg : Str → Option Value} (T : Tx K mg) : Addr := T.t__law_nearer.a
abbrev Tx.d__law_nearer {K : PySem.W.Frag} {mg : Str → Option Value} (T : Tx K mg) : FuncData := T.t__law_nearer.d
theorem Tx.m__law_nearer {K : PySem.W.Frag} {mg : Str → Option Value} (T : Tx K mg) : mg "_law_nearer" = some (.ref T.a__law_nearer) := T.t__law_nearer.m
theorem Tx.F__law_nearer {K : PySem.W.Frag} {mg : Str → Option Value} (T : Tx K mg) : Fun K "_law_nearer" "_law_nearer" s__law_nearer T.a__law_nearer T.d__law_nearer := T.t__law_nearer.F
theorem Tx.b__law_nearer {K : PySem.W.Frag} {mg : Str → Option Value} (T : Tx K mg) : Binds K T.d__law_nearer ["_law_own_here", "_law_one"] [] := T.t__law_nearer.b
abbrev Tx.a__law_due {K : PySem.W.Frag} {mg : Str → Option Value} (T : Tx K mg) : Addr := T.t__law_due.a
abbrev Tx.d__law_due {K : PySem.W.Frag} {mg : Str → Option Value} (T : Tx K mg) : FuncData := T.t__law_due.d
theorem Tx.m__law_due {K : PySem.W.Frag} {mg : Str → Option Value} (T : Tx K mg) : mg "_law_due" = some (.ref T.a__law_due) := T.t__law_due.m
theorem Tx.F__law_due {K : PySem.W.Frag} {mg : Str → Option Value} (T : Tx K mg) : Fun K "_law_due" "_law_due" s__law_due T.a__law_due T.d__law_due := T.t__law_due.F
theorem Tx.b__law_due {K : PySem.W.Frag} {mg : Str → Option Value} (T : Tx K mg) : Binds K T.d__law_due ["_law_own_here", "_law_one", "_law_sign"] [] := T.t__law_due.b
abbrev Tx.a__law_border {K : PySem.W.Frag} {mg : Str → Option Value} (T : Tx K mg) : Addr := T.t__law_border.a
abbrev Tx.d__law_border {K : PySem.W.Frag} {mg : Str → Option Value} (T : Tx K mg) : FuncData := T.t__law_border.d
theorem Tx.m__law_border {K : PySem.W.Frag} {mg : Str → Option Value} (T : Tx K mg) : mg "_law_border" = some (.ref T.a__law_border) := T.t__law_border.m
theorem Tx.F__law_border {K : PySem.W.Frag} {mg : Str → Option Value} (T : Tx K mg) : Fun K "_law_border" "_law_border" s__law_border T.a__law_border T.d__law_border := T.t__law_border.F
theorem Tx.b__law_border {K : PySem.W.Frag} {mg : Str → Option Value} (T : Tx K mg) : Binds K T.d__law_border ["_law_own_here", "_law_cell"] [] := T.t__law_border.b
abbrev Tx.a_law {K : PySem.W.Frag} {mg : Str → Option Value} (T : Tx K mg) : Addr := T.t_law.a
abbrev Tx.d_law {K : PySem.W.Frag} {mg : Str → Option Value} (T : Tx K mg) : FuncData := T.t_law.d
theorem Tx.m_law {K : PySem.W.Frag} {mg : Str → Option Value} (T : Tx K mg) : mg "law" = some (.ref T.a_law) := T.t_law.m
theorem Tx.F_law {K : PySem.W.Frag} {mg : Str → Option Value} (T : Tx K mg) : Fun K "law" "law" s_law T.a_law T.d_law := T.t_law.F
theorem Tx.b_law {K : PySem.W.Frag} {mg : Str → Option Value} (T : Tx K mg) : Binds K T.d_law ["_law_script"] [] := T.t_law.b
abbrev Tx.cs {K : PySem.W.Frag} {mg : Str → Option Value} (T : Tx K mg) : List (Addr × Addr) := [(T.lc_law, T.lp_law)]
abbrev ns_Number : List Str := ["kind", "sign", "figures", "power"]
theorem fld_Number_kind {K : PySem.W.Frag} {mg : Str → Option Value} (T : Tx K mg) {o_kind o_sign o_figures o_power : PV} {M : Mem} {Q : Box PK} : @fldB K "kind" (.obj T.c_Number ns_Number [o_kind, o_sign, o_figures, o_power]) M Q = Q.v o_kind M := fldB_own rfl T.i_Number.cl T.no_Number_kind (by simp (decide := true) [lk])
theorem fld_Number_sign {K : PySem.W.Frag} {mg : Str → Option Value} (T : Tx K mg) {o_kind o_sign o_figures o_power : PV} {M : Mem} {Q : Box PK} : @fldB K "sign" (.obj T.c_Number ns_Number [o_kind, o_sign, o_figures, o_power]) M Q = Q.v o_sign M := fldB_own rfl T.i_Number.cl T.no_Number_sign (by simp (decide := true) [lk])
theorem fld_Number_figures {K : PySem.W.Frag} {mg : Str → Option Value} (T : Tx K mg) {o_kind o_sign o_figures o_power : PV} {M : Mem} {Q : Box PK} : @fldB K "figures" (.obj T.c_Number ns_Number [o_kind, o_sign, o_figures, o_power]) M Q = Q.v o_figures M := fldB_own rfl T.i_Number.cl T.no_Number_figures (by simp (decide := true) [lk])
theorem fld_Number_power {K : PySem.W.Frag} {mg : Str → Option Value} (T : Tx K mg) {o_kind o_sign o_figures o_power : PV} {M : Mem} {Q : Box PK} : @fldB K "power" (.obj T.c_Number ns_Number [o_kind, o_sign, o_figures, o_power]) M Q = Q.v o_power M := fldB_own rfl T.i_Number.cl T.no_Number_power (by simp (decide := true) [lk])
abbrev ns_Ratio : List Str := ["top", "bottom", "scale"]
theorem fld_Ratio_top {K : PySem.W.Frag} {mg : Str → Option Value} (T : Tx K mg) {o_top o_bottom o_scale : PV} {M : Mem} {Q : Box PK} : @fldB K "top" (.obj T.c_Ratio ns_Ratio [o_top, o_bottom, o_scale]) M Q = Q.v o_top M := fldB_own rfl T.i_Ratio.cl T.no_Ratio_top (by simp (decide := true) [lk])
theorem fld_Ratio_bottom {K : PySem.W.Frag} {mg : Str → Option Value} (T : Tx K mg) {o_top o_bottom o_scale : PV} {M : Mem} {Q : Box PK} : @fldB K "bottom" (.obj T.c_Ratio ns_Ratio [o_top, o_bottom, o_scale]) M Q = Q.v o_bottom M := fldB_own rfl T.i_Ratio.cl T.no_Ratio_bottom (by simp (decide := true) [lk])
theorem fld_Ratio_scale {K : PySem.W.Frag} {mg : Str → Option Value} (T : Tx K mg) {o_top o_bottom o_scale : PV} {M : Mem} {Q : Box PK} : @fldB K "scale" (.obj T.c_Ratio ns_Ratio [o_top, o_bottom, o_scale]) M Q = Q.v o_scale M := fldB_own rfl T.i_Ratio.cl T.no_Ratio_scale (by simp (decide := true) [lk])
theorem mth_Ratio_at {K : PySem.W.Frag} {mg : Str → Option Value} (T : Tx K mg) {os : List PV} {M : Mem} {R : Box Prop} : @mthB T.c_Ratio "at" (.obj T.c_Ratio ns_Ratio os) M R = R.v := mthB_own rfl (by decide)
abbrev ns_Context : List Str := ["manner", "room", "least", "most", "standing", "caught"]
theorem fldw_Context_manner {K : PySem.W.Frag} {mg : Str → Option Value} (T : Tx K mg) {o_manner o_room o_least o_most o_standing o_caught : PV} {M : Mem} {a : Addr} {Q : Box PK} (h : M a = some (.ins T.c_Context ns_Context [o_manner, o_room, o_least, o_most, o_standing, o_caught])) : @fldB K "manner" (.ref a) M Q = Q.v o_manner M := fldB_own (own_ref h) T.i_Context.cl T.no_Context_manner (by simp (decide := true) [lk])
theorem fldw_Context_room {K : PySem.W.Frag} {mg : Str → Option Value} (T : Tx K mg) {o_manner o_room o_least o_most o_standing o_caught : PV} {M : Mem} {a : Addr} {Q : Box PK} (h : M a = some (.ins T.c_Context ns_Context [o_manner, o_room, o_least, o_most, o_standing, o_caught])) : @fldB K "room" (.ref a) M Q = Q.v o_room M := fldB_own (own_ref h) T.i_Context.cl T.no_Context_room (by simp (decide := true) [lk])
theorem fldw_Context_least {K : PySem.W.Frag} {mg : Str → Option Value} (T : Tx K mg) {o_manner o_room o_least o_most o_standing o_caught : PV} {M : Mem} {a : Addr} {Q : Box PK} (h : M a = some (.ins T.c_Context ns_Context [o_manner, o_room, o_least, o_most, o_standing, o_caught])) : @fldB K "least" (.ref a) M Q = Q.v o_least M := fldB_own (own_ref h) T.i_Context.cl T.no_Context_least (by simp (decide := true) [lk])
theorem fldw_Context_most {K : PySem.W.Frag} {mg : Str → Option Value} (T : Tx K mg) {o_manner o_room o_least o_most o_standing o_caught : PV} {M : Mem} {a : Addr} {Q : Box PK} (h : M a = some (.ins T.c_Context ns_Context [o_manner, o_room, o_least, o_most, o_standing, o_caught])) : @fldB K "most" (.ref a) M Q = Q.v o_most M := fldB_own (own_ref h) T.i_Context.cl T.no_Context_most (by simp (decide := true) [lk])
theorem fldw_Context_standing {K : PySem.W.Frag} {mg : Str → Option Value} (T : Tx K mg) {o_manner o_room o_least o_most o_standing o_caught : PV} {M : Mem} {a : Addr} {Q : Box PK} (h : M a = some (.ins T.c_Context ns_Context [o_manner, o_room, o_least, o_most, o_standing, o_caught])) : @fldB K "standing" (.ref a) M Q = Q.v o_standing M := fldB_own (own_ref h) T.i_Context.cl T.no_Context_standing (by simp (decide := true) [lk])
theorem fldw_Context_caught {K : PySem.W.Frag} {mg : Str → Option Value} (T : Tx K mg) {o_manner o_room o_least o_most o_standing o_caught : PV} {M : Mem} {a : Addr} {Q : Box PK} (h : M a = some (.ins T.c_Context ns_Context [o_manner, o_room, o_least, o_most, o_standing, o_caught])) : @fldB K "caught" (.ref a) M Q = Q.v o_caught M := fldB_own (own_ref h) T.i_Context.cl T.no_Context_caught (by simp (decide := true) [lk])
theorem mthw_Context_flags {K : PySem.W.Frag} {mg : Str → Option Value} (T : Tx K mg) {os : List PV} {M : Mem} {a : Addr} {R : Box Prop} (h : M a = some (.ins T.c_Context ns_Context os)) : @mthB T.c_Context "flags" (.ref a) M R = R.v := mthB_own (own_ref h) (by decide)
theorem mthw_Context_lowest {K : PySem.W.Frag} {mg : Str → Option Value} (T : Tx K mg) {os : List PV} {M : Mem} {a : Addr} {R : Box Prop} (h : M a = some (.ins T.c_Context ns_Context os)) : @mthB T.c_Context "lowest" (.ref a) M R = R.v := mthB_own (own_ref h) (by decide)
theorem mthw_Context_raised {K : PySem.W.Frag} {mg : Str → Option Value} (T : Tx K mg) {os : List PV} {M : Mem} {a : Addr} {R : Box Prop} (h : M a = some (.ins T.c_Context ns_Context os)) : @mthB T.c_Context "raised" (.ref a) M R = R.v := mthB_own (own_ref h) (by decide)
theorem mthw_Context_trap {K : PySem.W.Frag} {mg : Str → Option Value} (T : Tx K mg) {os : List PV} {M : Mem} {a : Addr} {R : Box Prop} (h : M a = some (.ins T.c_Context ns_Context os)) : @mthB T.c_Context "trap" (.ref a) M R = R.v := mthB_own (own_ref h) (by decide)
theorem mthw_Context_traps {K : PySem.W.Frag} {mg : Str → Option Value} (T : Tx K mg) {os : List PV} {M : Mem} {a : Addr} {R : Box Prop} (h : M a = some (.ins T.c_Context ns_Context os)) : @mthB T.c_Context "traps" (.ref a) M R = R.v := mthB_own (own_ref h) (by decide)
theorem isi_Number_Number {K : PySem.W.Frag} {mg : Str → Option Value} (T : Tx K mg) {ns : List Str} {xs : List PV} {M : Mem} {Q : Box PK} : @isiB K (.obj T.c_Number ns xs) (.ref T.c_Number) M Q = Q.v (.bl true) M := isiP rfl T.i_Number rfl T.isi_Number_Number
/-! ### short words of this text -/
local macro_rules | `(tactic| walk_at "q") => `(tactic| simp (config := { maxSteps := 1000000 }) only [↓e_qVar, ↓e_qC, ↓e_q2, ↓e_qTst, ↓e_qAnd, ↓e_qOr, ↓e_qNot, ↓e_qAndV, ↓e_qOrV, ↓e_qNotV, ↓e_qIf, ↓e_qNil, ↓e_qCons, ↓e_qTup, ↓e_qLst, ↓e_qLstM, ↓tup_0, ↓tup_1, ↓tup_2, ↓tup_3, ↓tup_4, ↓tup_5, ↓lis_0, ↓lis_1, ↓lis_2, ↓lis_3, ↓lis_4, ↓lis_5, ↓lis_6, ↓lis_7, ↓lis_8, ↓e_qCB, ↓e_cLen, ↓e_cMax, ↓e_cMin, ↓e_cAbs, ↓e_cInt_i, ↓e_cInt_d, ↓e_cInt_nd, ↓e_qBits2, ↓e_cInt_s, ↓e_cStr, ↓e_cDivmod, ↓e_cIsi, ↓e_qNeg, ↓e_qSl, ↓e_qoNone, ↓e_qoSome, ↓e_qCall, ↓e_qFld, ↓e_qMeth, ↓e_qMake, ↓e_qMakeK, ↓e_qOrC, ↓e_qTru, ↓e_qChain, ↓e_qApp, ↓b_add_i, ↓b_add_s, ↓b_add_l, ↓b_sub, ↓b_mul_i, ↓b_mul_s, ↓b_div, ↓b_mod, ↓b_pow, ↓b_lt, ↓b_le, ↓b_gt, ↓b_ge, ↓i_add_i, ↓i_add_s, ↓i_mul_i, ↓xi_lst, ↓xi_scr, ↓xi_tup, ↓e_ixR, ↓e_sNext, ↓e_sSeq, ↓e_sRet, ↓e_sDrop, ↓e_sIf, ↓e_sAsg, ↓e_sPar, parP_2, ↓e_sTrap, trapP_1, ↓e_qSig, ↓e_sTryAs, sigP_exc, ↓e_cIsE, ↓e_sAug, ↓e_sBreak, ↓e_sCont, ↓e_gNm, ↓e_gTu, ↓e_gsNil, ↓e_gsCons, ↓e_lcEn, ↓e_lcTM, ↓e_qDGet, ↓e_cDictP, ↓e_qDsp, ↓e_qPs_c, ↓e_qPs_0, ↓e_qClr, ↓e_qDClr, ↓e_qRev, rev_lst, ↓e_bAddM, ↓e_bShr, ↓e_sForR3, ↓e_sForZ, ↓e_lcLW, ↓isR3_eq, isB_ll, isB_tl, ↓sl_tupQ, ↓e_sForR1, ↓e_sForR2, ↓e_sForT, ↓e_sForL, ↓e_sForS, ↓e_qYes, ↓e_lcEl, ↓e_lcT, ↓e_lcL, ↓e_lcR1,
  lsm_eq, vP_some, ixP_some, nxP_eq, box_v, iteP_true, iteP_false, ↓iteB_dec, ↓iteB_t, ↓iteB_f, ↓iteB_not, ↓iteB_and, ↓iteB_or, ↓iteB_beq, ↓iteB_bne, ↓blP_bl, ↓intP_int, truP_int, truP_bl, truP_non, if_int, app1_mset, app2_mset, at_0, at_1, at_2, at_3, ↓isR1_eq, ↓isR2_eq, forP_tup, forLP_lst, wipe_0, wipe_1, isB_ii, isB_ib, isB_is, isB_it, isB_bi, isB_bb, isB_ss, isB_st, isB_tt, isB_nt,
  ↓e_qAct, ↓e_qLam, ↓e_qCallL, ↓e_qAlt, fld_Number_kind, fld_Number_sign, fld_Number_figures, fld_Number_power, fld_Ratio_top, fld_Ratio_bottom, fld_Ratio_scale, mth_Ratio_at, isi_Number_Number, ↓e_sFldQ, ↓e_sDPutQ, ↓e_sLSet, ↓e_qDict0, ↓e_bIn, inB_f, inB_t, inP_tup, inP_lst, ↓e_bAnd, ↓e_bXor, ↓e_bShl, ↓e_iAddG, iadd_i, iadd_s, iadd_mset, ↓e_lcLM, ↓e_lcR1M, ↓e_lcR1I, ↓b_mul_l, ↓e_gLu2, sqB_some, sq_lst, ↓e_cInt_tt, ↓e_cInt_ff, ↓sl_lst, ↓e_qMake0, ↓isN_i, ↓notN_i, ↓isN_s, ↓notN_s, ↓isN_b, ↓notN_b, ↓isN_o, ↓notN_o, ↓isN_r, ↓notN_r, ↓isN_t, ↓notN_t, ↓isN_l, ↓notN_l, ↓isN_n, ↓notN_n,  ↓e_qMethD, ↓e_qMakeW, ↓e_sRaise, ↓e_qSw2, strP_s, swP_s, bEq_int, bNe_int, bEq_str, bNe_str, bEq_bl, bNe_bl, len_scr, len_lst, len_tup, len_mset, ixR_mset, sqA_scr, sqA_lst, sqA_mset, mset_same, mset_mset, start_eq, List.map_cons, List.map_nil, List.length_cons, List.length_nil, List.replicate, List.cons_append, List.nil_append, List.append_nil, Nat.reduceAdd, Nat.reduceSub, List.getElem?_cons_zero, List.getElem?_cons_succ, List.set_cons_zero, List.set_cons_succ,
  Int.reduceLT, Int.reduceLE, Int.reduceEq, Int.reduceNeg, dec_t, dec_f, c_0, c_1, c_2, c_3, c_4, Bool.not_true, Bool.not_false, Nat.reduceEqDiff, ofS, String.reduceEq, eq_self, true_and, and_true, reduceCtorEq, bEq_nil, bNe_pair, makP_2, makP_3, makP_4])
local macro_rules | `(tactic| walk_at "s") => `(tactic| simp (config := { maxSteps := 1000000 }) only [↓e_qVar, ↓e_qC, ↓e_q2, ↓e_qTst, ↓e_qAnd, ↓e_qOr, ↓e_qNot, ↓e_qAndV, ↓e_qOrV, ↓e_qNotV, ↓e_qIf, ↓e_qNil, ↓e_qCons, ↓e_qTup, ↓e_qLst, ↓e_qLstM, ↓tup_0, ↓tup_1, ↓tup_2, ↓tup_3, ↓tup_4, ↓tup_5, ↓lis_0, ↓lis_1, ↓lis_2, ↓lis_3, ↓lis_4, ↓lis_5, ↓lis_6, ↓lis_7, ↓lis_8, ↓e_qCB, ↓e_cLen, ↓e_cMax, ↓e_cMin, ↓e_cAbs, ↓e_cInt_i, ↓e_cInt_d, ↓e_cInt_nd, ↓e_qBits2, ↓e_cInt_s, ↓e_cStr, ↓e_cDivmod, ↓e_cIsi, ↓e_qNeg, ↓e_qSl, ↓e_qoNone, ↓e_qoSome, ↓e_qCall, ↓e_qFld, ↓e_qMeth, ↓e_qMake, ↓e_qMakeK, ↓e_qOrC, ↓e_qTru, ↓e_qChain, ↓e_qApp, ↓b_add_i, ↓b_add_s, ↓b_add_l, ↓b_sub, ↓b_mul_i, ↓b_mul_s, ↓b_div, ↓b_mod, ↓b_pow, ↓b_lt, ↓b_le, ↓b_gt, ↓b_ge, ↓i_add_i, ↓i_add_s, ↓i_mul_i, ↓xi_lst, ↓xi_scr, ↓xi_tup, ↓e_ixR, ↓e_sNext, ↓s_fldq, ↓s_dput, ↓s_lset, ↓s_asg, ↓s_par, ↓s_aug, ↓s_drop, ↓e_sRet, ↓e_sDrop, ↓e_sIf, ↓e_sAsg, ↓e_sPar, parP_2, ↓e_sTrap, trapP_1, ↓e_qSig, ↓e_sTryAs, sigP_exc, ↓e_cIsE, ↓e_sAug, ↓e_sBreak, ↓e_sCont, ↓e_gNm, ↓e_gTu, ↓e_gsNil, ↓e_gsCons, ↓e_lcEn, ↓e_lcTM, ↓e_qDGet, ↓e_cDictP, ↓e_qDsp, ↓e_qPs_c, ↓e_qPs_0, ↓e_qClr, ↓e_qDClr, ↓e_qRev, rev_lst, ↓e_bAddM, ↓e_bShr, ↓e_sForR3, ↓e_sForZ, ↓e_lcLW, ↓isR3_eq, isB_ll, isB_tl, ↓sl_tupQ, ↓e_sForR1, ↓e_sForR2, ↓e_sForT, ↓e_sForL, ↓e_sForS, ↓e_qYes, ↓e_lcEl, ↓e_lcT, ↓e_lcL, ↓e_lcR1,
  lsm_eq, vP_some, ixP_some, nxP_eq, box_v, iteP_true, iteP_false, ↓iteB_dec, ↓iteB_t, ↓iteB_f, ↓iteB_not, ↓iteB_and, ↓iteB_or, ↓iteB_beq, ↓iteB_bne, ↓blP_bl, ↓intP_int, truP_int, truP_bl, truP_non, if_int, app1_mset, app2_mset, at_0, at_1, at_2, at_3, ↓isR1_eq, ↓isR2_eq, forP_tup, forLP_lst, wipe_0, wipe_1, isB_ii, isB_ib, isB_is, isB_it, isB_bi, isB_bb, isB_ss, isB_st, isB_tt, isB_nt,
  ↓e_qAct, ↓e_qLam, ↓e_qCallL, ↓e_qAlt, fld_Number_kind, fld_Number_sign, fld_Number_figures, fld_Number_power, fld_Ratio_top, fld_Ratio_bottom, fld_Ratio_scale, mth_Ratio_at, isi_Number_Number, ↓e_sFldQ, ↓e_sDPutQ, ↓e_sLSet, ↓e_qDict0, ↓e_bIn, inB_f, inB_t, inP_tup, inP_lst, ↓e_bAnd, ↓e_bXor, ↓e_bShl, ↓e_iAddG, iadd_i, iadd_s, iadd_mset, ↓e_lcLM, ↓e_lcR1M, ↓e_lcR1I, ↓b_mul_l, ↓e_gLu2, sqB_some, sq_lst, ↓e_cInt_tt, ↓e_cInt_ff, ↓sl_lst, ↓e_qMake0, ↓isN_i, ↓notN_i, ↓isN_s, ↓notN_s, ↓isN_b, ↓notN_b, ↓isN_o, ↓notN_o, ↓isN_r, ↓notN_r, ↓isN_t, ↓notN_t, ↓isN_l, ↓notN_l, ↓isN_n, ↓notN_n,  ↓e_qMethD, ↓e_qMakeW, ↓e_sRaise, ↓e_qSw2, strP_s, swP_s, bEq_int, bNe_int, bEq_str, bNe_str, bEq_bl, bNe_bl, len_scr, len_lst, len_tup, len_mset, ixR_mset, sqA_scr, sqA_lst, sqA_mset, mset_same, mset_mset, start_eq, List.map_cons, List.map_nil, List.length_cons, List.length_nil, List.replicate, List.cons_append, List.nil_append, List.append_nil, Nat.reduceAdd, Nat.reduceSub, List.getElem?_cons_zero, List.getElem?_cons_succ, List.set_cons_zero, List.set_cons_succ,
  Int.reduceLT, Int.reduceLE, Int.reduceEq, Int.reduceNeg, dec_t, dec_f, c_0, c_1, c_2, c_3, c_4, Bool.not_true, Bool.not_false, Nat.reduceEqDiff, ofS, String.reduceEq, eq_self, true_and, and_true, reduceCtorEq, bEq_nil, bNe_pair, makP_2, makP_3, makP_4])
local macro_rules | `(tactic| mul_fits) => `(tactic| first | exact mul_ok_l (by decide) (by decide) | exact mul_ok_r (by decide) (by decide) | exact mul_ok_l (by omega) (by omega) | exact mul_ok_r (by omega) (by omega) | exact divw (n := 63) (by decide) (by decide))

/-- a cell of the script -/
def cell (ns : List Int) (k : Int) : Int := ns.getD k.toNat 0
theorem cell_at {ns : List Int} {k : Int} (h : 0 ≤ k) (h1 : k < (ns.map PV.int).length) : atI (ns.map PV.int) k = some (.int (cell ns k)) := by
  rw [List.length_map] at h1
  have : k.toNat < ns.length := by omega
  rw [atI_in h (by rw [List.length_map]; exact h1), List.getElem?_map, List.getElem?_eq_getElem this]
  unfold cell
  rw [List.getD_eq_getElem?_getD, List.getElem?_eq_getElem this]
  rfl
theorem cell_no {ns : List Int} {k : Int} (h : 0 ≤ k) (h1 : ¬ k < (ns.map PV.int).length) : cell ns k = 0 := by
  rw [List.length_map] at h1
  unfold cell
  rw [List.getD_eq_getElem?_getD, List.getElem?_eq_none (by omega)]
  rfl
def mixed (c k : Int) : Int := (c * (48271 + 2 * k * k) + 69621 * k + 11) % 2147483647 * 69621 % 2147483629
theorem mixed_range (c k : Int) : 0 ≤ mixed c k ∧ mixed c k < 2147483629 := ⟨Int.emod_nonneg _ (by decide), Int.emod_lt_of_pos _ (by decide)⟩

/-- which part a rest is -/
def prt (r b : Nat) : Nat := if r = 0 then 0 else if 2 * r < b then 1 else if 2 * r = b then 2 else 3
theorem prt_eq (r b : Nat) (h : r ≠ 0) : (2 : Int) + (if (b : Int) < 2 * (r : Int) then 1 else 0) - (if 2 * (r : Int) < (b : Int) then 1 else 0) = (prt r b : Int) := by
  unfold prt
  rw [if_neg h]
  by_cases h1 : 2 * r < b
  · rw [if_pos h1, if_neg (by omega), if_pos (by omega)]; rfl
  · by_cases h2 : 2 * r = b
    · rw [if_neg h1, if_pos h2, if_neg (by omega), if_neg (by omega)]; rfl
    · rw [if_neg h1, if_neg h2, if_pos (by omega), if_neg (by omega)]; rfl
theorem prt_sum (r b : Nat) (h : r < b) : (if (0 : Int) < (r : Int) then (1 : Int) else 0) + (if (b : Int) ≤ 2 * (r : Int) then 1 else 0) + (if (b : Int) < 2 * (r : Int) then 1 else 0) = (prt r b : Int) := by
  unfold prt
  by_cases h0 : r = 0
  · rw [if_pos h0, if_neg (by omega), if_neg (by omega), if_neg (by omega)]; rfl
  · rw [if_neg h0, if_pos (by omega)]
    by_cases h1 : 2 * r < b
    · rw [if_pos h1, if_neg (by omega), if_neg (by omega)]; rfl
    · by_cases h2 : 2 * r = b
      · rw [if_neg h1, if_pos h2, if_pos (by omega), if_neg (by omega)]; rfl
      · rw [if_neg h1, if_neg h2, if_pos (by omega), if_pos (by omega)]; rfl
theorem prt_le (r b : Nat) : prt r b ≤ 3 := by
  unfold prt
  split
  · decide
  · split
    · decide
    · split <;> decide
theorem at_self {n : Nat} (h : n ≤ 3) : atI [PV.int 0, PV.int 1, PV.int 2, PV.int 3] (n : Int) = some (.int n) := by
  match n, h with
  | 0, _ => rfl
  | 1, _ => rfl
  | 2, _ => rfl
  | 3, _ => rfl
/-- top and bottom, moved by so many places -/
def sideH (t : Nat) (s : Int) : Nat := t * 10 ^ s.toNat
def sideL (b : Nat) (s : Int) : Nat := b * 10 ^ (-s).toNat
theorem sideL_pos {b : Nat} (h : 1 ≤ b) (s : Int) : 0 < sideL b s := Nat.mul_pos h (ten_pos _)
theorem side_le {t b : Nat} {s N : Int} (h0 : 0 ≤ N) (h : 0 ≤ N + s) : sideL b s ≤ sideH t s ↔ b * 10 ^ N.toNat ≤ t * 10 ^ (N + s).toNat := by
  unfold sideL sideH
  rcases Int.le_total 0 s with z | z
  · have e1 : (-s).toNat = 0 := by omega
    have e2 : (N + s).toNat = s.toNat + N.toNat := by omega
    rw [e1, e2, Nat.pow_zero, Nat.mul_one, Nat.pow_add, ← Nat.mul_assoc]
    exact (Nat.mul_le_mul_right_iff (ten_pos _)).symm
  · have e1 : s.toNat = 0 := by omega
    have e2 : N.toNat = (-s).toNat + (N + s).toNat := by omega
    rw [e1, e2, Nat.pow_zero, Nat.mul_one, Nat.pow_add, ← Nat.mul_assoc]
    exact (Nat.mul_le_mul_right_iff (ten_pos _)).symm
theorem side_ten {t b : Nat} {s : Int} : (sideH t s < 10 * sideL b s) ↔ sideH t (s - 1) < sideL b (s - 1) := by
  unfold sideL sideH
  by_cases z : 1 ≤ s
  · have e1 : (-s).toNat = 0 := by omega
    have e2 : (-(s - 1)).toNat = 0 := by omega
    have e3 : s.toNat = (s - 1).toNat + 1 := by omega
    have e4 : t * 10 ^ ((s - 1).toNat + 1) = (t * 10 ^ (s - 1).toNat) * 10 := by rw [Nat.pow_succ, Nat.mul_assoc]
    rw [e1, e2, e3, e4, Nat.pow_zero, Nat.mul_one]
    generalize t * 10 ^ (s - 1).toNat = z
    omega
  · have e1 : s.toNat = 0 := by omega
    have e2 : (s - 1).toNat = 0 := by omega
    have e3 : (-(s - 1)).toNat = (-s).toNat + 1 := by omega
    have e4 : b * 10 ^ ((-s).toNat + 1) = (b * 10 ^ (-s).toNat) * 10 := by rw [Nat.pow_succ, Nat.mul_assoc]
    rw [e1, e2, e3, e4, Nat.pow_zero, Nat.mul_one]
    generalize b * 10 ^ (-s).toNat = z
    omega
theorem side_bits {t k : Nat} {s : Int} {n : Nat} (h : t < 10 ^ k) (hs : s ≤ n) : sideH t s < 10 ^ (k + n) := by
  unfold sideH
  rw [Nat.pow_add]
  exact Nat.mul_lt_mul_of_lt_of_le h (pow10_le (by omega)) (ten_pos _)
theorem sideL_bits {b k : Nat} {s : Int} {n : Nat} (h : b < 10 ^ k) (hs : -s ≤ n) : sideL b s < 10 ^ (k + n) := side_bits (s := -s) h hs
/-- the power of the first figure of t / b -/
def fst (t b : Nat) : Int := if sideH t (-((nd t : Int) - nd b)) < sideL b (-((nd t : Int) - nd b)) then (nd t : Int) - nd b - 1 else (nd t : Int) - nd b
theorem fst_spec {t b : Nat} (ht : 1 ≤ t) (hb : 1 ≤ b) : sideL b (-fst t b) ≤ sideH t (-fst t b) ∧ sideH t (-fst t b) < 10 * sideL b (-fst t b) := by
  have t1 := nd_lt t
  have t2 := nd_le ht
  have b1 := nd_lt b
  have b2 := nd_le hb
  have tp := nd_pos t
  have bp := nd_pos b
  rw [side_ten]
  unfold fst
  generalize nd t = x at *
  generalize nd b = y at *
  split
  · rename_i h
    refine ⟨?_, by rw [show (-((x : Int) - y - 1) - 1) = -((x : Int) - y) by omega]; exact h⟩
    rw [side_le (N := x + y) (by omega) (by omega), show ((x : Int) + y).toNat = x + y by omega, show ((x : Int) + y + -((x : Int) - y - 1)).toNat = y + y + 1 by omega]
    have e1 : b * 10 ^ (x + y) ≤ 10 ^ y * 10 ^ (x + y) := Nat.mul_le_mul_right _ (Nat.le_of_lt b1)
    have e2 : 10 ^ (x - 1) * 10 ^ (y + y + 1) ≤ t * 10 ^ (y + y + 1) := Nat.mul_le_mul_right _ t2
    rw [← Nat.pow_add] at e1 e2
    rw [show x - 1 + (y + y + 1) = y + (x + y) by omega] at e2
    omega
  · rename_i h
    refine ⟨Nat.not_lt.mp h, ?_⟩
    refine Nat.not_le.mp fun z => ?_
    rw [side_le (N := x + y + 1) (by omega) (by omega), show ((x : Int) + y + 1).toNat = x + y + 1 by omega, show ((x : Int) + y + 1 + (-((x : Int) - y) - 1)).toNat = y + y by omega] at z
    have e1 : t * 10 ^ (y + y) < 10 ^ x * 10 ^ (y + y) := Nat.mul_lt_mul_of_pos_right t1 (ten_pos _)
    have e2 : 10 ^ (y - 1) * 10 ^ (x + y + 1) ≤ b * 10 ^ (x + y + 1) := Nat.mul_le_mul_right _ b2
    rw [← Nat.pow_add] at e1 e2
    rw [show y - 1 + (x + y + 1) = x + (y + y) by omega] at e2
    omega
theorem fst_range {t b k l : Nat} (hk : 1 ≤ k) (hl : 1 ≤ l) (ht : t < 10 ^ k) (hb : b < 10 ^ l) : -(l : Int) ≤ fst t b ∧ fst t b < k := by
  have h1 := nd_le_of hk ht
  have h2 := nd_le_of hl hb
  have := nd_pos t
  have := nd_pos b
  unfold fst
  split <;> omega

/-- the whole root -/
def isq : Nat → Nat
  | 0 => 0
  | n + 1 => if (isq n + 1) * (isq n + 1) ≤ n + 1 then isq n + 1 else isq n
theorem isq_spec : ∀ n, isq n * isq n ≤ n ∧ n < (isq n + 1) * (isq n + 1)
  | 0 => ⟨by decide, by decide⟩
  | n + 1 => by
    obtain ⟨h1, h2⟩ := isq_spec n
    unfold isq
    split
    · rename_i h
      refine ⟨h, ?_⟩
      have e : (isq n + 1 + 1) * (isq n + 1 + 1) = (isq n + 1) * (isq n + 1) + 2 * (isq n + 1) + 1 := by
        generalize isq n + 1 = r
        rw [Nat.add_mul, Nat.mul_add]
        omega
      omega
    · omega
theorem sq_le {a b : Nat} (h : a ≤ b) : a * a ≤ b * b := Nat.mul_le_mul h h
theorem sq_lt {a b : Nat} (h : a < b) : a * a < b * b := Nat.mul_lt_mul_of_le_of_lt (Nat.le_of_lt h) h (by omega)
theorem sq_lt_inv {a b : Nat} (h : a * a < b * b) : a < b := by
  rcases Nat.lt_or_ge a b with z | z
  · exact z
  · exact absurd (sq_le z) (by omega)
theorem isq_of {n r : Nat} (h1 : r * r ≤ n) (h2 : n < (r + 1) * (r + 1)) : isq n = r := by
  obtain ⟨a, b⟩ := isq_spec n
  have := sq_lt_inv (Nat.lt_of_le_of_lt a h2)
  have := sq_lt_inv (Nat.lt_of_le_of_lt h1 b)
  omega
theorem isq_le (n : Nat) : isq n ≤ n := by
  obtain ⟨a, _⟩ := isq_spec n
  have : isq n * 1 ≤ isq n * isq n ∨ isq n = 0 := by
    rcases Nat.eq_zero_or_pos (isq n) with z | z
    · exact .inr z
    · exact .inl (Nat.mul_le_mul_left _ z)
  omega
/-- Newton's step stays above the root -/
theorem newton {n f r : Nat} (hr : r * r ≤ n) (hf : r ≤ f) (h0 : 0 < f) : r ≤ (f + n / f) / 2 := by
  rcases Nat.lt_or_ge ((f + n / f) / 2) r with z | z
  · exfalso
    obtain ⟨d, rfl⟩ := Nat.exists_eq_add_of_le hf
    have hq : n / (r + d) < r - d ∧ d < r := by
      generalize n / (r + d) = q at z
      omega
    obtain ⟨hq, hd⟩ := hq
    obtain ⟨e, rfl⟩ : ∃ e, r = d + e := ⟨r - d, by omega⟩
    rw [show d + e - d = e by omega] at hq
    have h1 : n < (d + e + d) * e := by
      rw [Nat.mul_comm]
      exact (Nat.div_lt_iff_lt_mul h0).mp hq
    have e1 : (d + e) * (d + e) = d * d + (d + e + d) * e := by
      simp only [Nat.add_mul, Nat.mul_add, Nat.mul_comm]
      omega
    have := Nat.zero_le (d * d)
    omega
  · exact z
theorem newton_end {n f r : Nat} (hr : n < (r + 1) * (r + 1)) (hf : r ≤ f) (h0 : 0 < f) (h : f ≤ (f + n / f) / 2) : f = r := by
  have h1 : f ≤ n / f := by omega
  have h2 : f * f ≤ n := by
    have := Nat.mul_le_of_le_div f f n h1
    exact this
  have := sq_lt_inv (Nat.lt_of_le_of_lt h2 hr)
  omega
/-- the part of a root -/
def rprt (w H L : Nat) : Nat := if w * w * L = H then 0 else if 4 * H < (2 * w + 1) * (2 * w + 1) * L then 1 else if 4 * H = (2 * w + 1) * (2 * w + 1) * L then 2 else 3
def rfst (t : Nat) (s : Int) : Int := ((nd t : Int) - 1 + s) / 2
theorem rfst_spec {t : Nat} (s : Int) (h : 1 ≤ t) : sideL 1 (s - 2 * rfst t s) ≤ sideH t (s - 2 * rfst t s) ∧ sideH t (s - 2 * rfst t s) < 100 * sideL 1 (s - 2 * rfst t s) := by
  have t1 := nd_lt t
  have t2 := nd_le h
  have tp := nd_pos t
  unfold rfst
  generalize nd t = d at *
  obtain ⟨x, hx⟩ : ∃ x : Int, x = s - 2 * (((d : Int) - 1 + s) / 2) := ⟨_, rfl⟩
  rw [← hx]
  unfold sideL sideH
  have hx2 : x = -((d : Int) - 1) ∨ x = -((d : Int) - 1) + 1 := by omega
  rcases Int.le_total x 0 with z | z
  · have e1 : x.toNat = 0 := by omega
    rw [e1, Nat.pow_zero, Nat.mul_one, Nat.one_mul]
    have a := pow10_le (m := (-x).toNat) (n := d - 1) (by omega)
    have b := pow10_le (m := d) (n := (-x).toNat + 2) (by omega)
    rw [Nat.pow_add] at b
    omega
  · have e1 : (-x).toNat = 0 := by omega
    have hd : d = 1 ∨ d = 2 := by omega
    rw [e1, Nat.pow_zero, Nat.one_mul]
    rcases hd with rfl | rfl
    · have : x.toNat = 0 ∨ x.toNat = 1 := by omega
      rcases this with e | e <;> rw [e] <;> omega
    · have : x.toNat = 0 := by omega
      rw [this]
      omega
theorem roots_between {H L : Nat} (hL : 0 < L) : isq (H / L) * isq (H / L) * L ≤ H ∧ H < (isq (H / L) + 1) * (isq (H / L) + 1) * L := by
  obtain ⟨a, b⟩ := isq_spec (H / L)
  have h1 := Nat.mul_le_mul_right L a
  have h2 := Nat.div_mul_le_self H L
  have h3 : H < (H / L + 1) * L := by
    rw [Nat.add_mul, Nat.one_mul, Nat.mul_comm]
    have := Nat.div_add_mod H L
    have := Nat.mod_lt H hL
    omega
  have h4 : (H / L + 1) * L ≤ (isq (H / L) + 1) * (isq (H / L) + 1) * L := Nat.mul_le_mul_right L b
  omega

/-- a Ratio -/
abbrev rat (C : Addr) (t b : Nat) (s : Int) : PV := .obj C ns_Ratio [.int t, .int b, .int s]

/-- a Number -/
abbrev numP (C : Addr) (k : String) (s f p : Int) : PV := .obj C ns_Number [.str k, .int s, .int f, .int p]
def okP (s f p : Int) : Prop := (0 ≤ s ∧ s ≤ 1) ∧ (0 ≤ f ∧ f ≤ 10 ^ 60 - 1) ∧ -200 ≤ p ∧ p ≤ 200
instance {s f p : Int} : Decidable (okP s f p) := by unfold okP; infer_instance

/-- the ways -/
inductive Wy where
  | down | up | floor | ceiling | halfUp | halfDown | halfEven | fiveUp
def Wy.name : Wy → String
  | .down => "down" | .up => "up" | .floor => "floor" | .ceiling => "ceiling" | .halfUp => "half up" | .halfDown => "half down" | .halfEven => "half even" | .fiveUp => "five up"
def Wy.goes : Wy → Int → Int → Int → Bool
  | .down, _, _, _ => false
  | .up, _, _, _ => true
  | .floor, s, _, _ => decide (s = 1)
  | .ceiling, s, _, _ => decide (s = 0)
  | .halfUp, _, _, p => decide (2 ≤ p)
  | .halfDown, _, _, p => decide (2 < p)
  | .halfEven, _, l, p => decide (2 < p) || (decide (p = 2) && decide (Builtin.bitAnd l 1 = 1))
  | .fiveUp, _, l, _ => decide (l ∈ [(0 : Int), 5])
def Wy.toEnd : Wy → Int → Bool
  | .down, _ => false
  | .floor, s => decide (s = 1)
  | .ceiling, s => decide (s = 0)
  | .fiveUp, _ => false
  | _, _ => true
theorem Wy.name_inj {a b : Wy} (h : a.name = b.name) : a = b := by
  cases a <;> cases b <;> first | rfl | (exact absurd h (by decide))
def Wy.cls {K : PySem.W.Frag} {mg : Str → Option Value} (T : Tx K mg) : Wy → Addr
  | .down => T.c_Down | .up => T.c_Up | .floor => T.c_Floor | .ceiling => T.c_Ceiling | .halfUp => T.c_HalfUp | .halfDown => T.c_HalfDown | .halfEven => T.c_HalfEven | .fiveUp => T.c_FiveUp
/-- a way, made -/
abbrev wayP {K : PySem.W.Frag} {mg : Str → Option Value} (T : Tx K mg) (y : Wy) : PV := .obj (y.cls T) [] []
theorem ways_in (y : Wy) : inPs (.str (Str.ofString y.name)) gl_WAYS = some true := by cases y <;> decide +kernel
def Wy.half : Wy → Bool
  | .halfUp => true
  | .halfDown => true
  | .halfEven => true
  | _ => false
theorem half_start (y : Wy) : Txt.startswith (Str.ofString y.name) "half" = y.half := by cases y <;> decide +kernel

/-! ### contexts -/
abbrev sigs : List Str := ["void", "split", "burst", "sunk", "faint", "off", "cut"]
def sk : Str → Key := Sum.inr
theorem sk_put (n : Str) (F : List Str) : putN (sk n) (F.map sk) = (putN n F).map sk := by
  unfold putN
  have : sk n ∈ F.map sk ↔ n ∈ F := by
    rw [List.mem_map]
    exact ⟨fun ⟨a, h, e⟩ => by cases e; exact h, fun h => ⟨n, h, rfl⟩⟩
  by_cases h : n ∈ F
  · rw [if_pos h, if_pos (this.mpr h)]
  · rw [if_neg h, if_neg (fun z => h (this.mp z)), List.map_append]; rfl
theorem sk_mem (n : Str) (F : List Str) : memK (sk n) (F.map sk) = decide (n ∈ F) := by
  unfold memK
  have : sk n ∈ F.map sk ↔ n ∈ F := by
    rw [List.mem_map]
    exact ⟨fun ⟨a, h, e⟩ => by cases e; exact h, fun h => ⟨n, h, rfl⟩⟩
  simp only [this]
theorem sk_nodup {F : List Str} (h : F.Nodup) : (F.map sk).Nodup := by
  rw [List.Nodup, List.pairwise_map]
  exact h.imp fun hn z => hn (by cases z; rfl)
/-- a context at its address; its dicts at d1 (flags) and d2 (traps) -/
structure Ctx {K : PySem.W.Frag} {mg : Str → Option Value} (T : Tx K mg) (M : Mem) (a d1 d2 : Addr) (y : Wy) (r l m : Int) (F C : List Str) : Prop where
  self : M a = some (.ins T.c_Context ns_Context [.str (Str.ofString y.name), .int r, .int l, .int m, .ref d1, .ref d2])
  fl : ∃ vs, M d1 = some (.dic (F.map sk) vs)
  ca : ∃ vs, M d2 = some (.dic (C.map sk) vs)
  ne : d1 ≠ d2
  nf : F.Nodup
  lf : F.length ≤ 1000
  room : 1 ≤ r ∧ r ≤ 24
  least : -60 ≤ l ∧ l ≤ 0
  most : 0 ≤ m ∧ m ≤ 60
theorem Ctx.ne1 {K : PySem.W.Frag} {mg : Str → Option Value} {T : Tx K mg} {M : Mem} {a d1 d2 : Addr} {y : Wy} {r l m : Int} {F C : List Str} (c : Ctx T M a d1 d2 y r l m F C) : a ≠ d1 := by
  rintro rfl
  obtain ⟨vs, h⟩ := c.fl
  rw [c.self] at h
  cases h
theorem Ctx.ne2 {K : PySem.W.Frag} {mg : Str → Option Value} {T : Tx K mg} {M : Mem} {a d1 d2 : Addr} {y : Wy} {r l m : Int} {F C : List Str} (c : Ctx T M a d1 d2 y r l m F C) : a ≠ d2 := by
  rintro rfl
  obtain ⟨vs, h⟩ := c.ca
  rw [c.self] at h
  cases h
theorem Ctx.ext {K : PySem.W.Frag} {mg : Str → Option Value} {T : Tx K mg} {M M' : Mem} {a d1 d2 : Addr} {y : Wy} {r l m : Int} {F C : List Str} (c : Ctx T M a d1 d2 y r l m F C) (h : MExt M M') : Ctx T M' a d1 d2 y r l m F C := by
  obtain ⟨vs, h1⟩ := c.fl
  obtain ⟨ws, h2⟩ := c.ca
  exact ⟨h _ _ c.self, ⟨vs, h _ _ h1⟩, ⟨ws, h _ _ h2⟩, c.ne, c.nf, c.lf, c.room, c.least, c.most⟩
/-- names raised -/
def raiseF (F N : List Str) : List Str := N.foldl (fun F n => putN n F) F
theorem raise_next {F N : List Str} {i : Nat} {n : Str} (h : N[i]? = some n) : raiseF F (N.take (i + 1)) = putN n (raiseF F (N.take i)) := by
  unfold raiseF
  rw [List.take_add_one, h, List.foldl_append]
  rfl
theorem raise_nodup {F : List Str} : ∀ {N : List Str}, F.Nodup → (raiseF F N).Nodup := fun {N} h => by
  unfold raiseF
  induction N generalizing F with
  | nil => exact h
  | cons n N ih => exact ih (nodup_putN h)
theorem putN_mem {n x : Str} {F : List Str} : x ∈ putN n F ↔ x = n ∨ x ∈ F := by
  unfold putN
  split
  · rename_i h
    exact ⟨.inr, fun z => z.elim (fun e => e ▸ h) id⟩
  · rw [List.mem_append, List.mem_singleton]
    exact ⟨fun z => z.symm, fun z => z.symm⟩
theorem raise_mem {x : Str} : ∀ {N F : List Str}, x ∈ raiseF F N ↔ x ∈ N ∨ x ∈ F
  | [], F => by simp [raiseF]
  | n :: N, F => by
    show x ∈ raiseF (putN n F) N ↔ _
    rw [raise_mem, putN_mem, List.mem_cons]
    constructor
    · rintro (h | h | h)
      · exact .inl (.inr h)
      · exact .inl (.inl h)
      · exact .inr h
    · rintro ((h | h) | h)
      · exact .inr (.inl h)
      · exact .inl h
      · exact .inr (.inr h)
theorem raise_length {F N : List Str} : (raiseF F N).length ≤ F.length + N.length := by
  unfold raiseF
  induction N generalizing F with
  | nil => exact Nat.le_refl _
  | cons n N ih =>
    refine Nat.le_trans ih ?_
    rw [putN_length, List.length_cons]
    split <;> omega
theorem Ctx.flag {K : PySem.W.Frag} {mg : Str → Option Value} {T : Tx K mg} {M : Mem} {a d1 d2 : Addr} {y : Wy} {r l m : Int} {F C : List Str} (c : Ctx T M a d1 d2 y r l m F C) {n : Str} (x : PV) (hl : (putN n F).length ≤ 1000) {vs : List PV} :
    Ctx T (mset M d1 (.dic (putN (sk n) (F.map sk)) vs)) a d1 d2 y r l m (putN n F) C := by
  obtain ⟨ws, h2⟩ := c.ca
  exact ⟨by rw [mset_ne c.ne1]; exact c.self, ⟨_, by rw [mset_same, sk_put]⟩, ⟨ws, by rw [mset_ne c.ne.symm]; exact h2⟩, c.ne, nodup_putN c.nf, hl, c.room, c.least, c.most⟩
/-- the told ones, in order -/
def flagsOf (F : List Str) : List Str := sigs.filter fun s => decide (s ∈ F)
def keepS (F : List Str) : PV → Option PV
  | .str s => if s ∈ F then some (.str s) else none
  | _ => none
theorem keepS_map (F : List Str) : ∀ ss : List Str, (ss.map PV.str).filterMap (keepS F) = (ss.filter fun s => decide (s ∈ F)).map PV.str
  | [] => rfl
  | s :: ss => by
    rw [List.map_cons, List.filter_cons]
    by_cases h : s ∈ F
    · rw [List.filterMap_cons_some (show keepS F (.str s) = some (.str s) from if_pos h), if_pos (decide_eq_true h), List.map_cons, keepS_map F ss]
    · rw [List.filterMap_cons_none (show keepS F (.str s) = none from if_neg h), if_neg (by simp [h]), keepS_map F ss]
theorem gl_sigs : gl_SIGNALS = sigs.map PV.str := rfl

/-! ### settling, by whole numbers alone -/
/-- exact values: a ratio, a root -/
inductive Exa where
  | ratio (t b : Nat) (s : Int) | root (t : Nat) (s : Int)
def Exa.first : Exa → Int
  | .ratio t b s => fst t b + s
  | .root t s => rfst t s
def Exa.whole : Exa → Int → Nat
  | .ratio t b s, p => sideH t (s - p) / sideL b (s - p)
  | .root t s, p => isq (sideH t (s - 2 * p) / sideL 1 (s - 2 * p))
def Exa.part : Exa → Int → Nat
  | .ratio t b s, p => prt (sideH t (s - p) % sideL b (s - p)) (sideL b (s - p))
  | .root t s, p => rprt (isq (sideH t (s - 2 * p) / sideL 1 (s - 2 * p))) (sideH t (s - 2 * p)) (sideL 1 (s - 2 * p))
/-- the walk's bounds -/
def Exa.Good : Exa → Prop
  | .ratio t b _ => (1 ≤ t ∧ 1 ≤ b) ∧ t < 10 ^ 2000 ∧ b < 10 ^ 2000
  | .root t _ => 1 ≤ t ∧ t < 10 ^ 1000
def Exa.Fits : Exa → Int → Prop
  | .ratio _ b s, p => (-4000 ≤ s - p ∧ s - p ≤ 4000) ∧ sideL b (s - p) < 2 ^ 8000
  | .root _ s, p => -1500 ≤ s - 2 * p ∧ s - 2 * p ≤ 1900
theorem side_pow {t b : Nat} : ∀ (n : Nat) {x : Int}, (sideH t x < 10 ^ n * sideL b x) ↔ sideH t (x - n) < sideL b (x - n)
  | 0, x => by simp
  | n + 1, x => by
    have e : ∀ z : Int, sideL (10 ^ n * b) z = 10 ^ n * sideL b z := fun z => Nat.mul_assoc _ _ _
    have h := side_ten (t := t) (b := 10 ^ n * b) (s := x)
    rw [e, e] at h
    have e2 : 10 ^ (n + 1) * sideL b x = 10 * (10 ^ n * sideL b x) := by rw [Nat.pow_succ, Nat.mul_comm (10 ^ n), Nat.mul_assoc]
    rw [e2, h, side_pow n, show x - 1 - (n : Int) = x - ((n + 1 : Nat) : Int) by omega]
theorem side_mono {t b : Nat} {x : Int} (h : sideH t x < sideL b x) (n : Nat) : sideH t (x - n) < sideL b (x - n) := by
  rw [← side_pow n]
  exact Nat.lt_of_lt_of_le h (Nat.le_mul_of_pos_left _ (ten_pos n))
/-- the figures ahead of a place -/
theorem ratio_lt {t b : Nat} {x : Int} {n : Nat} (ht : 1 ≤ t) (hb : 1 ≤ b) (h : fst t b + x + 1 ≤ n) : sideH t x / sideL b x < 10 ^ n := by
  rw [Nat.div_lt_iff_lt_mul (sideL_pos hb x), side_pow]
  have h1 := (fst_spec ht hb).2
  rw [side_ten] at h1
  have := side_mono h1 (n - (fst t b + x + 1)).toNat
  rwa [show -fst t b - 1 - ((n - (fst t b + x + 1)).toNat : Int) = x - n by omega] at this
theorem ratio_ge {t b : Nat} {x : Int} {n : Nat} (ht : 1 ≤ t) (hb : 1 ≤ b) (h : (n : Int) ≤ fst t b + x) : 10 ^ n ≤ sideH t x / sideL b x := by
  rw [Nat.le_div_iff_mul_le (sideL_pos hb x)]
  refine Nat.not_lt.mp fun z => ?_
  rw [side_pow] at z
  have := side_mono z (fst t b + x - n).toNat
  rw [show x - n - ((fst t b + x - n).toNat : Int) = -fst t b by omega] at this
  have h1 := (fst_spec ht hb).1
  omega
theorem isq_lt_pow {n k : Nat} (h : n < 10 ^ (k + k)) : isq n < 10 ^ k := by
  refine sq_lt_inv (Nat.lt_of_le_of_lt (isq_spec n).1 ?_)
  rw [← Nat.pow_add]; exact h
theorem isq_ge_pow {n k : Nat} (h : 10 ^ (k + k) ≤ n) : 10 ^ k ≤ isq n := by
  have h2 := (isq_spec n).2
  rw [Nat.pow_add] at h
  have := sq_lt_inv (Nat.lt_of_le_of_lt h h2)
  omega
theorem root_side {t : Nat} {s : Int} (h : 1 ≤ t) {p : Int} : (∀ n : Nat, rfst t s - p + 1 ≤ n → sideH t (s - 2 * p) < 10 ^ (n + n) * sideL 1 (s - 2 * p)) ∧ ∀ n : Nat, (n : Int) ≤ rfst t s - p → 10 ^ (n + n) * sideL 1 (s - 2 * p) ≤ sideH t (s - 2 * p) := by
  obtain ⟨h1, h2⟩ := rfst_spec s h
  refine ⟨fun n hn => ?_, fun n hn => ?_⟩
  · rw [show (100 : Nat) = 10 ^ 2 from rfl, side_pow] at h2
    rw [side_pow]
    have := side_mono h2 (2 * (n - (rfst t s - p + 1))).toNat
    rwa [show s - 2 * rfst t s - ((2 : Nat) : Int) - ((2 * (n - (rfst t s - p + 1))).toNat : Int) = s - 2 * p - ((n + n : Nat) : Int) by omega] at this
  · refine Nat.not_lt.mp fun z => ?_
    rw [side_pow] at z
    have := side_mono z (2 * (rfst t s - p - n)).toNat
    rw [show s - 2 * p - ((n + n : Nat) : Int) - ((2 * (rfst t s - p - n)).toNat : Int) = s - 2 * rfst t s by omega] at this
    omega
theorem Exa.whole_lt {e : Exa} (g : e.Good) {p : Int} {n : Nat} (h : e.first - p + 1 ≤ n) : e.whole p < 10 ^ n := by
  cases e with
  | ratio t b s => exact ratio_lt g.1.1 g.1.2 (by have h' : fst t b + s - p + 1 ≤ n := h; omega)
  | root t s =>
    refine isq_lt_pow ?_
    rw [Nat.div_lt_iff_lt_mul (sideL_pos (Nat.le_refl 1) _)]
    exact (root_side g.1).1 n h
theorem Exa.whole_ge {e : Exa} (g : e.Good) {p : Int} {n : Nat} (h : (n : Int) ≤ e.first - p) : 10 ^ n ≤ e.whole p := by
  cases e with
  | ratio t b s => exact ratio_ge g.1.1 g.1.2 (by have h' : (n : Int) ≤ fst t b + s - p := h; omega)
  | root t s =>
    refine isq_ge_pow ?_
    rw [Nat.le_div_iff_mul_le (sideL_pos (Nat.le_refl 1) _)]
    exact (root_side g.1).2 n h
theorem Exa.part_le (e : Exa) (p : Int) : e.part p ≤ 3 := by
  cases e with
  | ratio t b s => exact prt_le _ _
  | root t s =>
    show rprt _ _ _ ≤ 3
    unfold rprt
    split
    · decide
    · split
      · decide
      · split <;> decide
/-- what stands nearer to the ideal power -/
def nearF : Nat → Nat → Int → Nat × Int
  | 0, w, p => (w, p)
  | n + 1, w, p => if w % 10 = 0 then nearF n (w / 10) (p + 1) else (w, p)
def near (w : Nat) (p ideal : Int) : Nat × Int := nearF (ideal - p).toNat w p
theorem near_step {w : Nat} {p ideal : Int} (h : p < ideal) (h0 : w % 10 = 0) : near w p ideal = near (w / 10) (p + 1) ideal := by
  unfold near
  rw [show (ideal - p).toNat = (ideal - (p + 1)).toNat + 1 by omega]
  exact if_pos h0
theorem near_stop {w : Nat} {p ideal : Int} (h : ¬ (p < ideal ∧ w % 10 = 0)) : near w p ideal = (w, p) := by
  unfold near
  rcases Int.lt_or_le p ideal with z | z
  · rw [show (ideal - p).toNat = (ideal - (p + 1)).toNat + 1 by omega]
    exact if_neg (fun q => h ⟨z, q⟩)
  · rw [show (ideal - p).toNat = 0 by omega]
    rfl
theorem near_le : ∀ (n w : Nat) (p : Int), (nearF n w p).1 ≤ w ∧ p ≤ (nearF n w p).2 ∧ (nearF n w p).2 ≤ p + n
  | 0, w, p => ⟨Nat.le_refl _, Int.le_refl _, by show p ≤ p + 0; omega⟩
  | n + 1, w, p => by
    unfold nearF
    split
    · obtain ⟨a, b, c⟩ := near_le n (w / 10) (p + 1)
      exact ⟨by omega, by omega, by omega⟩
    · exact ⟨Nat.le_refl _, Int.le_refl _, by omega⟩
/-- a told number -/
structure Nu where
  k : String
  s : Int
  f : Int
  p : Int
def Nu.pv (C : Addr) (n : Nu) : PV := numP C n.k n.s n.f n.p
def Nu.tup (n : Nu) : PV := .tup [.str (Str.ofString n.k), .int n.s, .int n.f, .int n.p]
def tooG (y : Wy) (r m s : Int) : Nu := if y.toEnd s = true then ⟨"end", s, 0, 0⟩ else ⟨"plain", s, ((10 ^ r.toNat : Nat) : Int) - 1, m - r + 1⟩
/-- where something goes: the neighbour -/
def rnd (y : Wy) (r s : Int) (w : Nat) (p : Int) (pt : Nat) : Nat × Int :=
  if r < nd (if y.goes s (w % 10 : Nat) pt = true then w + 1 else w) then ((if y.goes s (w % 10 : Nat) pt = true then w + 1 else w) / 10, p + 1) else (if y.goes s (w % 10 : Nat) pt = true then w + 1 else w, p)
def fin (r l : Int) (e : Exa) : Int := max (e.first - r + 1) (l - r + 1)
def stlW (y : Wy) (r l s : Int) (e : Exa) (ideal : Int) : Nat × Int :=
  if e.part (fin r l e) = 0 then near (e.whole (fin r l e)) (fin r l e) ideal else rnd y r s (e.whole (fin r l e)) (fin r l e) (e.part (fin r l e))
def stlN (r l : Int) (e : Exa) (ideal p : Int) : List Str :=
  (if e.part (fin r l e) = 0 then (if ideal < p then ([("cut" : Str)] : List Str) else []) else ([("off" : Str), ("cut" : Str)] : List Str)) ++ (if e.first < l then (if e.part (fin r l e) = 0 then ([("faint" : Str)] : List Str) else [("sunk" : Str), ("faint" : Str)]) else [])
abbrev burstN : List Str := ["burst", "off", "cut"]
def stl (y : Wy) (r l m s : Int) (e : Exa) (ideal : Int) : Nu × List Str :=
  if 0 < (stlW y r l s e ideal).1 ∧ m < (stlW y r l s e ideal).2 + nd (stlW y r l s e ideal).1 - 1 then (tooG y r m s, burstN)
  else (⟨"plain", s, (stlW y r l s e ideal).1, (stlW y r l s e ideal).2⟩, flagsOf (stlN r l e ideal (stlW y r l s e ideal).2))
theorem fin_ge (r l : Int) (e : Exa) : l - r + 1 ≤ fin r l e ∧ e.first - r + 1 ≤ fin r l e := by unfold fin; omega
theorem wfin_lt {r l : Int} {e : Exa} (g : e.Good) (hr : 1 ≤ r) : e.whole (fin r l e) < 10 ^ r.toNat := Exa.whole_lt g (by have := (fin_ge r l e).2; omega)
theorem rnd_le {y : Wy} {r s : Int} {w : Nat} {p : Int} {pt : Nat} (hr : 1 ≤ r) (h : w < 10 ^ r.toNat) : (rnd y r s w p pt).1 < 10 ^ r.toNat ∧ p ≤ (rnd y r s w p pt).2 ∧ (rnd y r s w p pt).2 ≤ p + 1 ∧ ((rnd y r s w p pt).2 = p ∨ 1 ≤ (rnd y r s w p pt).1) := by
  unfold rnd
  have h10 : 10 ≤ 10 ^ r.toNat := pow10_le (m := 1) (by omega)
  generalize hv : (if y.goes s (w % 10 : Nat) pt = true then w + 1 else w) = v
  have hvw : w ≤ v ∧ v ≤ w + 1 := by rw [← hv]; split <;> omega
  split
  · rename_i hn
    have : 10 ^ r.toNat ≤ v := Nat.not_lt.mp fun z => by
      have := nd_le_of (c := r.toNat) (by omega) z
      omega
    refine ⟨by show v / 10 < _; omega, by show p ≤ p + 1; omega, by show p + 1 ≤ p + 1; omega, .inr (by show 1 ≤ v / 10; omega)⟩
  · rename_i hn
    refine ⟨?_, Int.le_refl _, by show p ≤ p + 1; omega, .inl rfl⟩
    show v < _
    refine Nat.lt_of_lt_of_le (nd_lt v) (pow10_le ?_)
    omega
theorem rnd_pos {y : Wy} {r s : Int} {w : Nat} {p : Int} {pt : Nat} (hr : 1 ≤ r) (h1 : 1 ≤ w) : 1 ≤ (rnd y r s w p pt).1 := by
  unfold rnd
  have h10 : 10 ≤ 10 ^ r.toNat := pow10_le (m := 1) (by omega)
  generalize hv : (if y.goes s (w % 10 : Nat) pt = true then w + 1 else w) = v
  have hvw : w ≤ v := by rw [← hv]; split <;> omega
  split
  · rename_i hn
    have : 10 ^ r.toNat ≤ v := Nat.not_lt.mp fun z => by
      have := nd_le_of (c := r.toNat) (by omega) z
      omega
    show 1 ≤ v / 10
    omega
  · show 1 ≤ v
    omega
theorem sideH_pos {t : Nat} (h : 1 ≤ t) (x : Int) : 0 < sideH t x := Nat.mul_pos h (ten_pos _)
theorem Exa.nonzero {e : Exa} (g : e.Good) {p : Int} (h : e.part p = 0) : 0 < e.whole p := by
  cases e with
  | ratio t b s =>
    have hp := sideH_pos g.1.1 (s - p)
    have hl := sideL_pos g.1.2 (s - p)
    replace h : prt (sideH t (s - p) % sideL b (s - p)) (sideL b (s - p)) = 0 := h
    show 0 < sideH t (s - p) / sideL b (s - p)
    have h0 : sideH t (s - p) % sideL b (s - p) = 0 := by
      unfold prt at h
      split at h
      · assumption
      · split at h
        · cases h
        · split at h <;> cases h
    have := Nat.div_add_mod (sideH t (s - p)) (sideL b (s - p))
    rw [h0] at this
    rcases Nat.eq_zero_or_pos (sideH t (s - p) / sideL b (s - p)) with z | z
    · rw [z, Nat.mul_zero] at this; omega
    · exact z
  | root t s =>
    have hp := sideH_pos g.1 (s - 2 * p)
    replace h : rprt (isq (sideH t (s - 2 * p) / sideL 1 (s - 2 * p))) (sideH t (s - 2 * p)) (sideL 1 (s - 2 * p)) = 0 := h
    show 0 < isq (sideH t (s - 2 * p) / sideL 1 (s - 2 * p))
    unfold rprt at h
    split at h
    · rename_i h1
      rcases Nat.eq_zero_or_pos (isq (sideH t (s - 2 * p) / sideL 1 (s - 2 * p))) with z | z
      · rw [z] at h1; omega
      · exact z
    · split at h
      · cases h
      · split at h <;> cases h
theorem nearF_pos : ∀ (n w : Nat) (p : Int), 0 < w → 0 < (nearF n w p).1
  | 0, w, p, h => h
  | n + 1, w, p, h => by
    unfold nearF
    split
    · exact nearF_pos n (w / 10) (p + 1) (by omega)
    · exact h
theorem stlW_ok {y : Wy} {r l s : Int} {e : Exa} {ideal : Int} (g : e.Good) (hr : 1 ≤ r ∧ r ≤ 24) (hl : -60 ≤ l ∧ l ≤ 0) : (stlW y r l s e ideal).1 < 10 ^ 24 ∧ -83 ≤ (stlW y r l s e ideal).2 ∧ (0 < (stlW y r l s e ideal).1 ∨ (stlW y r l s e ideal).2 ≤ 0) := by
  have hw := wfin_lt (l := l) g hr.1
  have hf := fin_ge r l e
  have h24 : 10 ^ r.toNat ≤ 10 ^ 24 := pow10_le (by omega)
  unfold stlW
  split
  · rename_i h0
    have := near_le (ideal - fin r l e).toNat (e.whole (fin r l e)) (fin r l e)
    exact ⟨by unfold near; omega, by unfold near; omega, .inl (nearF_pos _ _ _ (Exa.nonzero g h0))⟩
  · obtain ⟨a, b, c, d⟩ := rnd_le (y := y) (s := s) (p := fin r l e) (pt := e.part (fin r l e)) hr.1 hw
    refine ⟨by omega, by omega, ?_⟩
    rcases d with d | d
    · rw [d]
      by_cases hz : 0 < (rnd y r s (e.whole (fin r l e)) (fin r l e) (e.part (fin r l e))).1
      · exact .inl hz
      · refine .inr ?_
        have hz' : e.whole (fin r l e) = 0 := by
          rcases Nat.eq_zero_or_pos (e.whole (fin r l e)) with q | q
          · exact q
          · exact absurd (rnd_pos (y := y) (s := s) (p := fin r l e) (pt := e.part (fin r l e)) hr.1 q) hz
        have hge : ¬ ((0 : Nat) : Int) ≤ e.first - fin r l e := fun q => by
          have := Exa.whole_ge g q
          rw [hz'] at this
          exact absurd this (by decide)
        unfold fin at hge ⊢
        omega
    · exact .inl d

/-! ### what operations come to -/
abbrev Res := Nu × List Str
/-- the first signal that is trapped -/
def firstT (N C : List Str) : Option Str := (sigs.filter fun n => decide (n ∈ N ∧ n ∈ C)).head?
def TrapQ (N C : List Str) (A : Prop) (B : Str → Prop) : Prop := match firstT N C with
  | none => A
  | some n => B n
theorem TrapQ.imp {N C : List Str} {A A' : Prop} {B B' : Str → Prop} (h : TrapQ N C A B) (f : A → A') (g : ∀ n, B n → B' n) : TrapQ N C A' B' := by
  unfold TrapQ at *
  cases e : firstT N C with
  | none => rw [e] at h; exact f h
  | some n => rw [e] at h; exact g n h
theorem firstT_nil (C : List Str) : firstT [] C = none := by
  unfold firstT
  rw [List.filter_eq_nil_iff.mpr (fun n _ => by simp)]
  rfl
/-- how a def that raises signals goes on -/
def OpP {K : PySem.W.Frag} {mg : Str → Option Value} (T : Tx K mg) (a d1 d2 : Addr) (y : Wy) (r l m : Int) (F C : List Str) (M : Mem) (res : Res) (Q : TQ.PK) (E : EK) : Prop :=
  ∀ M', (∀ b, b ≠ d1 → M b ≠ none → M' b = M b) → Ctx T M' a d1 d2 y r l m (raiseF F res.2) C → TrapQ res.2 C (Q (res.1.pv T.c_Number) M') fun n => E (.ref T.c_Trapped) (some (.str n)) M'
theorem OpP.still {K : PySem.W.Frag} {mg : Str → Option Value} {T : Tx K mg} {a d1 d2 : Addr} {y : Wy} {r l m : Int} {F C : List Str} {M : Mem} {n : Nu} {Q : TQ.PK} {E : EK} (c : Ctx T M a d1 d2 y r l m F C) (h : OpP T a d1 d2 y r l m F C M (n, []) Q E) : Q (n.pv T.c_Number) M := by
  have z := h M (fun _ _ _ => rfl) c
  unfold TrapQ at z
  rw [show firstT (n, ([] : List Str)).2 C = none from firstT_nil C] at z
  exact z
/-- numbers, within the walk's bounds -/
structure Nu.Ok (n : Nu) : Prop where
  s : 0 ≤ n.s ∧ n.s ≤ 1
  f : 0 ≤ n.f ∧ n.f < 10 ^ 300
  p : -600 ≤ n.p ∧ n.p ≤ 600
theorem ratio_ok {t b : Nat} {s r l : Int} (ht : 1 ≤ t) (hb : 1 ≤ b) (h1 : t < 10 ^ 900) (h2 : b < 10 ^ 600) (hs : -1300 ≤ s ∧ s ≤ 1300) (hr : 1 ≤ r ∧ r ≤ 24) (hl : -60 ≤ l ∧ l ≤ 0) : (Exa.ratio t b s).Good ∧ (Exa.ratio t b s).Fits (fin r l (.ratio t b s)) := by
  have hf := fst_range (by decide) (by decide) h1 h2
  have e : fin r l (.ratio t b s) = max (fst t b + s - r + 1) (l - r + 1) := rfl
  have h1' : t < 10 ^ 2000 := Nat.lt_of_lt_of_le h1 (pow10_le (by decide))
  have h2' : b < 10 ^ 2000 := Nat.lt_of_lt_of_le h2 (pow10_le (by decide))
  refine ⟨⟨⟨ht, hb⟩, h1', h2'⟩, ?_⟩
  have hx : -1300 ≤ s - fin r l (.ratio t b s) ∧ s - fin r l (.ratio t b s) ≤ 700 := by
    rw [e]
    clear h1 h2 h1' h2'
    omega
  refine ⟨by clear h1 h2 h1' h2'; omega, ?_⟩
  have := pow10_lt_2 (sideL_bits (s := s - fin r l (.ratio t b s)) (n := 1300) h2 (by clear h1 h2 h1' h2'; omega))
  exact Nat.lt_of_lt_of_le this (two_le (by decide))
def nghtN (r l m s i : Int) : Nu := ⟨"plain", s, 0, min (max i (l - r + 1)) m⟩
abbrev noneN : Nu := ⟨"none", 0, 0, 0⟩
abbrev endN (s : Int) : Nu := ⟨"end", s, 0, 0⟩
def rouS (y : Wy) (r l m : Int) (n : Nu) : Res := if n.k = "plain" then (if n.f = 0 then (nghtN r l m n.s n.p, []) else stl y r l m n.s (.ratio n.f.toNat 1 n.p) n.p) else (n, [])
/-- with its sign, so many times ten to a power -/
def sgd (n : Nu) (p : Int) : Int := if n.s = 0 then n.f * ((10 ^ (n.p - p).toNat : Nat) : Int) else -(n.f * ((10 ^ (n.p - p).toNat : Nat) : Int))
def empS (y : Wy) (a b : Int) : Int := if a = b then a else if y.name = "floor" then 1 else 0
def addS (y : Wy) (r l m : Int) (a b : Nu) : Res :=
  if a.k = "end" ∨ b.k = "end" then (if a.k = b.k ∧ a.s ≠ b.s then (noneN, ["void"]) else (endN (if a.k = "end" then a.s else b.s), []))
  else if sgd a (min a.p b.p) + sgd b (min a.p b.p) = 0 then (nghtN r l m (empS y a.s b.s) (min a.p b.p), [])
  else stl y r l m (if sgd a (min a.p b.p) + sgd b (min a.p b.p) < 0 then 1 else 0) (.ratio (sgd a (min a.p b.p) + sgd b (min a.p b.p)).natAbs 1 (min a.p b.p)) (min a.p b.p)
def hasNo (ns : List Nu) : Bool := decide (Str.ofString "none" ∈ ns.map fun n => Str.ofString n.k)
def kindP : PV → Option PV
  | .obj _ _ (k :: _) => some k
  | _ => none
theorem kindP_map (C : Addr) : ∀ ns : List Nu, (ns.map (Nu.pv C)).filterMap kindP = (ns.map fun n => Str.ofString n.k).map PV.str
  | [] => rfl
  | n :: ns => by
    rw [List.map_cons, List.filterMap_cons_some (show kindP (n.pv C) = some (.str (Str.ofString n.k)) from rfl), kindP_map C ns]
    rfl
def trnd (n : Nu) : Nu := ⟨n.k, 1 - n.s, n.f, n.p⟩
theorem sgd_abs {n : Nu} {p : Int} (h : n.Ok) (hp : n.p - p ≤ 1200) : (sgd n p).natAbs < 10 ^ 1500 := by
  have h1 := h.f
  have : n.f.toNat * 10 ^ (n.p - p).toNat < 10 ^ (300 + 1200) := by
    rw [Nat.pow_add]
    exact Nat.mul_lt_mul_of_lt_of_le (by omega) (pow10_le (by omega)) (ten_pos _)
  have e : n.f * ((10 ^ (n.p - p).toNat : Nat) : Int) = ((n.f.toNat * 10 ^ (n.p - p).toNat : Nat) : Int) := by
    rw [Int.natCast_mul, Int.toNat_of_nonneg h1.1]
  unfold sgd
  rw [e]
  generalize n.f.toNat * 10 ^ (n.p - p).toNat = z at *
  split <;> omega
structure Nu.Sm (n : Nu) : Prop where
  s : 0 ≤ n.s ∧ n.s ≤ 1
  f : 0 ≤ n.f ∧ n.f < 10 ^ 100
  p : -250 ≤ n.p ∧ n.p ≤ 250
theorem Nu.Sm.ok {n : Nu} (h : n.Sm) : n.Ok := ⟨h.s, ⟨h.f.1, Int.lt_trans h.f.2 (by decide)⟩, by have := h.p; omega⟩
/-- what stands for a number -/
structure Nu.V (n : Nu) : Prop where
  sm : n.Sm
  kd : (n.k = "plain" ∧ okP n.s n.f n.p) ∨ (n.k = "end" ∧ n.f = 0 ∧ n.p = 0) ∨ n = noneN
def xorS (a b : Int) : Int := if a = b then 0 else 1
theorem xor_eq {a b : Int} (ha : 0 ≤ a ∧ a ≤ 1) (hb : 0 ≤ b ∧ b ≤ 1) : Builtin.bitXor a b = xorS a b := by
  have h1 : a = 0 ∨ a = 1 := by omega
  have h2 : b = 0 ∨ b = 1 := by omega
  rcases h1 with rfl | rfl <;> rcases h2 with rfl | rfl <;> decide +kernel
theorem xorS_r (a b : Int) : 0 ≤ xorS a b ∧ xorS a b ≤ 1 := by unfold xorS; split <;> omega
def ngt (n : Nu) : Prop := n.k = "plain" ∧ n.f = 0
instance {n : Nu} : Decidable (ngt n) := by unfold ngt; infer_instance
def prodS (n o : Nu) : Option Nu := if n.k = "end" ∨ o.k = "end" then (if ngt n ∨ ngt o then none else some (endN (xorS n.s o.s))) else some ⟨"plain", xorS n.s o.s, n.f * o.f, n.p + o.p⟩
def Nu.opv (C : Addr) : Option Nu → PV
  | some n => n.pv C
  | none => .non
theorem prod_ok {n o z : Nu} (h1 : n.Sm) (h2 : o.Sm) (e : prodS n o = some z) : z.Ok := by
  unfold prodS at e
  have hx := xorS_r n.s o.s
  split at e
  · split at e
    · cases e
    · cases e; exact ⟨hx, ⟨Int.le_refl 0, by show (0 : Int) < 10 ^ 300; decide⟩, by show -600 ≤ (0 : Int) ∧ (0 : Int) ≤ 600; decide⟩
  · cases e
    have a1 := h1.f
    have a2 := h2.f
    have a3 := h1.p
    have a4 := h2.p
    have hm : n.f * o.f ≤ 10 ^ 100 * 10 ^ 100 := Int.mul_le_mul (Int.le_of_lt a1.2) (Int.le_of_lt a2.2) a2.1 (by decide)
    exact ⟨hx, ⟨Int.mul_nonneg a1.1 a2.1, by show n.f * o.f < 10 ^ 300; omega⟩, by show -600 ≤ n.p + o.p ∧ n.p + o.p ≤ 600; omega⟩
def setlS (y : Wy) (r l m : Int) (n : Nu) (p i : Int) : Res := if n.f = 0 then (nghtN r l m n.s i, []) else stl y r l m n.s (.ratio n.f.toNat 1 p) i
def timS (y : Wy) (r l m : Int) (n o : Nu) : Res := if hasNo [n, o] = true then (noneN, []) else match prodS n o with
  | none => (noneN, ["void"])
  | some z => if z.k = "end" then (z, []) else setlS y r l m z z.p z.p
def fusS (y : Wy) (r l m : Int) (n o t : Nu) : Res := if hasNo [n, o, t] = true then (noneN, []) else match prodS n o with
  | none => (noneN, ["void"])
  | some z => addS y r l m z t
def bey (n : Nu) : Int := if n.k = "plain" then 0 else 1 - 2 * n.s
def cmpS (n o : Nu) : Int := if bey n = 0 ∧ bey o = 0 then (if sgd o (min n.p o.p) < sgd n (min n.p o.p) then 1 else 0) - (if sgd n (min n.p o.p) < sgd o (min n.p o.p) then 1 else 0)
  else (if bey o < bey n then 1 else 0) - (if bey n < bey o then 1 else 0)
def anewS (n : Nu) : Nu := n
def triS (y : Wy) (r l m : Int) (n : Nu) : Res := if n.k = "plain" then setlS y r l m n n.p (if n.f = 0 then 0 else 1000) else (n, [])
def scaS (y : Wy) (r l m : Int) (n : Nu) (k : Int) : Res := if n.k = "plain" then setlS y r l m n (n.p + k) (n.p + k) else (n, [])
theorem at_ok {t b : Nat} {s p : Int} (h1 : t < 10 ^ 900) (h2 : b < 10 ^ 600) (hs : -1300 ≤ s - p ∧ s - p ≤ 2000) : (t < 10 ^ 2000 ∧ b < 10 ^ 2000 ∧ (-4000 ≤ s - p ∧ s - p ≤ 4000) ∧ sideL b (s - p) < 2 ^ 8000) := by
  have e := pow10_lt_2 (sideL_bits (s := s - p) (n := 1300) h2 (by clear h1 h2; omega))
  exact ⟨Nat.lt_of_lt_of_le h1 (pow10_le (by decide)), Nat.lt_of_lt_of_le h2 (pow10_le (by decide)), by clear h1 h2 e; omega, Nat.lt_of_lt_of_le e (two_le (by decide))⟩

/-! ### the law's own words -/
theorem nd_small {n : Nat} (h : n < 10) : nd n = 1 := by
  have := nd_le_of (c := 1) (Nat.le_refl 1) (by simpa using h)
  have := nd_pos n
  omega
theorem nd_step {n : Nat} (h : 10 ≤ n) : nd n = nd (n / 10) + 1 := by
  have h1 := nd_le (n := n / 10) (by omega)
  have h2 := nd_lt (n / 10)
  have h3 := nd_pos (n / 10)
  refine nd_of (by omega) ?_ ?_
  · rw [show nd (n / 10) + 1 - 1 = (nd (n / 10) - 1) + 1 by omega, Nat.pow_succ]; omega
  · rw [Nat.pow_succ]; omega
def longN (c : Int) : Nat → Int
  | 0 => 0
  | k + 1 => longN c k * 2147483629 + mixed c k
theorem longN_r (c : Int) : ∀ k, 0 ≤ longN c k ∧ longN c k < 2 ^ (31 * k)
  | 0 => ⟨by show (0 : Int) ≤ 0; decide, by show (0 : Int) < 2 ^ (31 * 0); decide⟩
  | k + 1 => by
    obtain ⟨h1, h2⟩ := longN_r c k
    have hm := mixed_range c k
    have e : (2 : Int) ^ (31 * (k + 1)) = 2 ^ (31 * k) * 2147483648 := by
      rw [show 31 * (k + 1) = 31 * k + 31 by omega, Int.pow_add]; rfl
    show 0 ≤ longN c k * 2147483629 + mixed c k ∧ longN c k * 2147483629 + mixed c k < _
    rw [e]
    omega
/-- the drawn figures -/
def fgM (c most : Int) : Int := if mixed c 7 % 3 = 0 then 1 + mixed c 7 / 8 % most else if mixed c 7 % 3 = 1 then 1 + mixed c 7 / 8 % min 4 most else most
def fg0 (c most : Int) : Int := longN c 7 % ((10 ^ (fgM c most).toNat : Nat) : Int)
def fg1 (c most : Int) : Int := if mixed c 7 / 480 % 9 = 1 then ((10 ^ (fgM c most).toNat : Nat) : Int) - 1 else fg0 c most
def fgB (c most : Int) : Int := ((10 ^ (mixed c 7 / 4320 % fgM c most).toNat : Nat) : Int)
def fg2 (c most : Int) : Int := if mixed c 7 / 480 % 9 = 2 then fg1 c most / fgB c most * fgB c most else fg1 c most
def fg3 (c most : Int) : Int := if mixed c 7 / 480 % 9 = 3 then fgB c most else fg2 c most
def lfig (c most : Int) : Int := if mixed c 7 / 480 % 9 = 4 then 0 else fg3 c most
theorem fgM_r {c most : Int} (h : 1 ≤ most ∧ most ≤ 60) : 1 ≤ fgM c most ∧ fgM c most ≤ most := by
  unfold fgM
  have hm := mixed_range c 7
  have h1 : 0 ≤ mixed c 7 / 8 % most ∧ mixed c 7 / 8 % most < most := ⟨Int.emod_nonneg _ (by omega), Int.emod_lt_of_pos _ (by omega)⟩
  have h2 : 0 ≤ mixed c 7 / 8 % min 4 most ∧ mixed c 7 / 8 % min 4 most < min 4 most := ⟨Int.emod_nonneg _ (by omega), Int.emod_lt_of_pos _ (by omega)⟩
  split
  · omega
  · split <;> omega
theorem lfig_r {c most : Int} (h : 1 ≤ most ∧ most ≤ 60) : 0 ≤ lfig c most ∧ lfig c most < ((10 ^ most.toNat : Nat) : Int) := by
  have hm := fgM_r (c := c) h
  have hx := mixed_range c 7
  have hb : 0 ≤ mixed c 7 / 4320 % fgM c most ∧ mixed c 7 / 4320 % fgM c most < fgM c most := ⟨Int.emod_nonneg _ (by omega), Int.emod_lt_of_pos _ (by omega)⟩
  have p1 := ten_pos (fgM c most).toNat
  have p2 : 10 ^ (fgM c most).toNat ≤ 10 ^ most.toNat := pow10_le (by omega)
  have p3 := ten_pos (mixed c 7 / 4320 % fgM c most).toNat
  have p4 : 10 ^ (mixed c 7 / 4320 % fgM c most).toNat < 10 ^ (fgM c most).toNat := pow10_lt (by omega)
  have h0 : 0 ≤ fg0 c most ∧ fg0 c most < ((10 ^ (fgM c most).toNat : Nat) : Int) := ⟨Int.emod_nonneg _ (by omega), Int.emod_lt_of_pos _ (by omega)⟩
  have h1 : 0 ≤ fg1 c most ∧ fg1 c most < ((10 ^ (fgM c most).toNat : Nat) : Int) := by unfold fg1; split <;> omega
  have h2 : 0 ≤ fg2 c most ∧ fg2 c most < ((10 ^ (fgM c most).toNat : Nat) : Int) := by
    unfold fg2
    split
    · have hB : 0 < fgB c most := by unfold fgB; omega
      have hle : fg1 c most / fgB c most * fgB c most ≤ fg1 c most := Int.ediv_mul_le _ (by omega)
      have hnn : 0 ≤ fg1 c most / fgB c most * fgB c most := Int.mul_nonneg (Int.ediv_nonneg h1.1 (by omega)) (by omega)
      omega
    · exact h1
  have h3 : 0 ≤ fg3 c most ∧ fg3 c most < ((10 ^ (fgM c most).toNat : Nat) : Int) := by
    unfold fg3
    split
    · unfold fgB; omega
    · exact h2
  unfold lfig
  split <;> omega
theorem fg1_r {c most : Int} (h : 1 ≤ most ∧ most ≤ 60) : 0 ≤ fg1 c most ∧ fg1 c most < 2 ^ 300 := by
  have hm := fgM_r (c := c) h
  have p1 := ten_pos (fgM c most).toNat
  have p2 : 10 ^ (fgM c most).toNat ≤ 10 ^ 60 := pow10_le (by omega)
  have h0 : 0 ≤ fg0 c most ∧ fg0 c most < ((10 ^ (fgM c most).toNat : Nat) : Int) := ⟨Int.emod_nonneg _ (by omega), Int.emod_lt_of_pos _ (by omega)⟩
  unfold fg1
  split <;> omega
/-- a drawn number: sign, figures, power -/
def lpS (c : Int) : Int := mixed c 9 % 2
def lpP (c : Int) : Int := if mixed c 9 / 802 % 8 / 2 = 0 then mixed c 9 / 2 % 13 - 6 else if mixed c 9 / 802 % 8 / 2 = 1 then mixed c 9 / 2 % 61 - 30 else if mixed c 9 / 802 % 8 / 2 = 2 then mixed c 9 / 2 % 401 - 200 else mixed c 9 / 2 % 3 - 1
theorem lpP_r (c : Int) : -200 ≤ lpP c ∧ lpP c ≤ 200 := by
  unfold lpP
  split
  · omega
  · split
    · omega
    · split <;> omega
abbrev trip (s f p : Int) : PV := .tup [.int s, .int f, .int p]
abbrev frm (r : Int) (y : Wy) (l m : Int) : PV := .tup [.int r, .str (Str.ofString y.name), .int l, .int m]
abbrev valP (t b : Nat) (s : Int) : PV := .tup [.int t, .int b, .int s, .bl false]
theorem and_one (n : Nat) : Builtin.bitAnd (n : Int) 1 = ((n % 2 : Nat) : Int) := by rw [bitAnd_m1]; omega
/-- a result, told with its signals -/
abbrev resP (z : Res) : PV := .tup [z.1.tup, .lst (z.2.map PV.str)]
def whoS (y : Wy) (r l m : Int) (n p i s : Int) : Res := if n = 0 then (nghtN r l m s i, []) else stl y r l m (if n < 0 then 1 else 0) (.ratio n.natAbs 1 p) i
theorem goes_law {y : Wy} {s : Int} {w pt : Nat} (hs : 0 ≤ s ∧ s ≤ 1) (hp : 1 ≤ pt ∧ pt ≤ 3) (b : Bool) (h : b = match y with
  | .down => false
  | .up => true
  | .floor => decide (s = 1)
  | .ceiling => decide (s = 0)
  | .fiveUp => decide ((w : Int) ∈ [(0 : Int), 5])
  | .halfUp => decide (2 ≤ pt)
  | .halfDown => decide (2 < pt)
  | .halfEven => decide (2 < pt) || (decide (pt = 2) && decide (w % 2 = 1))) : b = y.goes s w pt := by
  subst h
  cases y <;> unfold Wy.goes <;> dsimp only
  · rw [Bool.eq_iff_iff]; simp only [decide_eq_true_eq]; omega
  · rw [Bool.eq_iff_iff]; simp only [decide_eq_true_eq]; omega
  · rw [and_one, Bool.eq_iff_iff]; simp only [Bool.or_eq_true, Bool.and_eq_true, decide_eq_true_eq]; omega
/-- the lead is where the first whole figure stands -/
theorem lead_zero {t b : Nat} {s p : Int} (ht : 1 ≤ t) (hb : 1 ≤ b) : sideH t (s - p) / sideL b (s - p) = 0 ↔ fst t b + s < p := by
  constructor
  · intro h
    refine Int.not_le.mp fun z => ?_
    have := ratio_ge (n := 0) (x := s - p) ht hb (by omega)
    rw [h] at this
    exact absurd this (by decide)
  · intro h
    have := ratio_lt (n := 0) (x := s - p) ht hb (by omega)
    exact Nat.lt_one_iff.mp this
theorem rnd_law {y : Wy} {r s : Int} {w : Nat} {p : Int} {pt v : Nat} (hr : 1 ≤ r) (h : w < 10 ^ r.toNat) (hv : v = if y.goes s (w % 10 : Nat) pt = true then w + 1 else w) : rnd y r s w p pt = if v = 10 ^ r.toNat then (v / 10, p + 1) else (v, p) := by
  unfold rnd
  rw [← hv]
  have hvw : v ≤ w + 1 := by rw [hv]; split <;> omega
  by_cases e : v = 10 ^ r.toNat
  · have := nd_ge_of (n := v) (c := r.toNat) (by omega)
    rw [if_pos e, if_pos (by omega)]
  · have := nd_le_of (n := v) (c := r.toNat) (by omega) (by omega)
    rw [if_neg e, if_neg (by omega)]
def lawN (first l : Int) (N : List Str) : List Str := if first < l then ((List.replicate (if ("off" : Str) ∈ N then 1 else 0) [("sunk" : Str)]).flatten ++ [("faint" : Str)]) ++ N else N
theorem lawN_eq (r l : Int) (e : Exa) (i p2 : Int) : lawN e.first l (if e.part (fin r l e) = 0 then (if i < p2 then ([("cut" : Str)] : List Str) else []) else ([("off" : Str), ("cut" : Str)] : List Str)) = flagsOf (stlN r l e i p2) := by
  unfold lawN stlN
  by_cases h0 : e.part (fin r l e) = 0 <;> by_cases h1 : i < p2 <;> by_cases h2 : e.first < l <;> simp only [h0, h1, h2, if_true, if_false] <;> decide +kernel
theorem stl_eq {y : Wy} {r l m s : Int} {e : Exa} {i : Int} {w2 : Nat} {p2 : Int} (h : stlW y r l s e i = (w2, p2)) : stl y r l m s e i = if 0 < w2 ∧ m < p2 + nd w2 - 1 then (tooG y r m s, burstN) else (⟨"plain", s, w2, p2⟩, flagsOf (stlN r l e i p2)) := by
  unfold stl
  rw [h]

/-! ### quotients, roots, powers -/
theorem fin_eq (r l : Int) (e : Exa) : fin r l e = max (e.first - r + 1) (l - r + 1) := rfl
/-- what a quotient is with ends, or by nought -/
def oddQ (r l m : Int) (n o : Nu) (i : Int) : Option Res :=
  if n.k = "end" then (if o.k = "end" then some (noneN, ["void"]) else some (endN (xorS n.s o.s), []))
  else if o.k = "end" then some (nghtN r l m (xorS n.s o.s) i, [])
  else if 0 < o.f then none
  else if n.f = 0 then some (noneN, ["void"])
  else some (endN (xorS n.s o.s), ["split"])
def ovrS (y : Wy) (r l m : Int) (n o : Nu) : Res := if hasNo [n, o] = true then (noneN, []) else match oddQ r l m n o (l - r + 1) with
  | some z => z
  | none => if n.f = 0 then (nghtN r l m (xorS n.s o.s) (n.p - o.p), []) else stl y r l m (xorS n.s o.s) (.ratio n.f.toNat o.f.toNat (n.p - o.p)) (n.p - o.p)
def rstH (n o : Nu) : Nat := n.f.toNat * 10 ^ (max 0 (n.p - o.p)).toNat
def rstL (n o : Nu) : Nat := o.f.toNat * 10 ^ (max 0 (0 - (n.p - o.p))).toNat
def whoN (n o : Nu) : Nat := rstH n o / rstL n o
def wovS (y : Wy) (r l m : Int) (n o : Nu) : Res := if hasNo [n, o] = true then (noneN, []) else match oddQ r l m n o 0 with
  | some z => z
  | none => if r < nd (whoN n o) then (noneN, ["void"]) else if whoN n o = 0 then (nghtN r l m (xorS n.s o.s) (max 0 (n.p - o.p)), []) else stl y r l m (xorS n.s o.s) (.ratio (whoN n o) 1 0) (max 0 (n.p - o.p))
def rstS (y : Wy) (r l m : Int) (n o : Nu) : Res := if hasNo [n, o] = true then (noneN, []) else if n.k = "end" ∨ ngt o then (noneN, ["void"]) else if o.k = "end" then rouS y r l m n
  else if r < nd (whoN n o) then (noneN, ["void"]) else if rstH n o % rstL n o = 0 then (nghtN r l m n.s (min n.p o.p), []) else stl y r l m n.s (.ratio (rstH n o % rstL n o) 1 (min n.p o.p)) (min n.p o.p)
theorem rst_big {n o : Nu} (h1 : n.Sm) (h2 : o.Sm) : rstH n o < 10 ^ 700 ∧ rstL n o < 10 ^ 700 := by
  have a1 := h1.f
  have a2 := h2.f
  have p1 := h1.p
  have p2 := h2.p
  have b1 : n.f.toNat < 10 ^ 100 := by omega
  have b2 : o.f.toNat < 10 ^ 100 := by omega
  clear a1 a2 h1 h2
  have key : ∀ (f : Nat) (x : Int), f < 10 ^ 100 → x ≤ 500 → f * 10 ^ x.toNat < 10 ^ 700 := fun f x hf hx => by
    refine Nat.lt_of_lt_of_le (Nat.mul_lt_mul_of_lt_of_le hf (pow10_le (m := x.toNat) (n := 600) (by omega)) (ten_pos _)) ?_
    rw [← Nat.pow_add]
    exact pow10_le (by decide)
  exact ⟨key _ _ b1 (by omega), key _ _ b2 (by omega)⟩

/-! ### texts of figures, their length -/
theorem str_len (n : Nat) : (Str.ofString (toString ((n : Nat) : Int))).length = nd n := by
  have e : (Str.ofString (toString ((n : Nat) : Int))).length = (Nat.toDigits 10 n).length := by
    have h : (Str.ofString (toString ((n : Nat) : Int))).cps.toList.length = (Nat.toDigits 10 n).length := by rw [PySem.W.KIN.signs_num, List.length_map]
    rw [Array.length_toList] at h
    exact h
  rw [e]
  have h1 : ∀ k, 0 < k → ((Nat.toDigits 10 n).length ≤ k ↔ n < 10 ^ k) := fun k hk => Nat.length_toDigits_le_iff (by decide) hk
  have h2 := (h1 (nd n) (nd_pos n)).mpr (nd_lt n)
  have h3 : 0 < (Nat.toDigits 10 n).length := Nat.length_toDigits_pos
  have h4 := nd_le_of h3 ((h1 _ h3).mp (Nat.le_refl _))
  omega
theorem log_big {z : Nat} (h : z < 10 ^ 570) : ((z : Nat) : Int).natAbs.log2 < 1920 := by
  rw [Int.natAbs_natCast]
  rcases Nat.eq_zero_or_pos z with q | q
  · rw [q]; decide
  · rw [Nat.log2_lt (by omega)]
    exact Nat.lt_of_lt_of_le h (by decide +kernel)
theorem len_str' {z : Str} {M : Mem} {Q : TQ.PK} (h : z.length ≤ sizeLine ∧ Q (.int z.length) M) : len1 (.str z) M Q := h
theorem len_big {z : Nat} {M : Mem} {Q : TQ.PK} (h : z < 10 ^ 570) (q : Q (.int (nd z : Nat)) M) : ((z : Nat) : Int).natAbs.log2 < 1920 ∧ len1 (.str (Str.ofString (toString ((z : Nat) : Int)))) M Q := by
  have hn := nd_le_of (c := 570) (by decide) h
  refine ⟨log_big h, ?_⟩
  refine len_str' ?_
  rw [str_len]
  exact ⟨len_ok (by omega), q⟩

/-! ### the law's own context: a dict -/
abbrev oK : List Key := [sk "room", sk "way", sk "least", sk "most", sk "lowest", sk "up", sk "trapped"]
def OwnD (M : Mem) (o : Addr) (r : Int) (y : Wy) (l m : Int) (U C : List Str) : Prop :=
  M o = some (.dic oK [.int r, .str (Str.ofString y.name), .int l, .int m, .int (l - r + 1), .lst (U.map PV.str), .lst (C.map PV.str)])
section
variable {M : Mem} {o : Addr} {r : Int} {y : Wy} {l m : Int} {U C : List Str} {Q : Box PK}
theorem own_room (h : OwnD M o r y l m U C) : @dgetB (.ref o) (.str "room") M Q = Q.v (.int r) M := dget_of h rfl (by simp (decide := true) [getX])
theorem own_way (h : OwnD M o r y l m U C) : @dgetB (.ref o) (.str "way") M Q = Q.v (.str (Str.ofString y.name)) M := dget_of h rfl (by simp (decide := true) [getX])
theorem own_least (h : OwnD M o r y l m U C) : @dgetB (.ref o) (.str "least") M Q = Q.v (.int l) M := dget_of h rfl (by simp (decide := true) [getX])
theorem own_most (h : OwnD M o r y l m U C) : @dgetB (.ref o) (.str "most") M Q = Q.v (.int m) M := dget_of h rfl (by simp (decide := true) [getX])
theorem own_lowest (h : OwnD M o r y l m U C) : @dgetB (.ref o) (.str "lowest") M Q = Q.v (.int (l - r + 1)) M := dget_of h rfl (by simp (decide := true) [getX])
theorem own_up (h : OwnD M o r y l m U C) : @dgetB (.ref o) (.str "up") M Q = Q.v (.lst (U.map PV.str)) M := dget_of h rfl (by simp (decide := true) [getX])
theorem own_trapped (h : OwnD M o r y l m U C) : @dgetB (.ref o) (.str "trapped") M Q = Q.v (.lst (C.map PV.str)) M := dget_of h rfl (by simp (decide := true) [getX])
theorem own_nd : oK.Nodup := by decide +kernel
theorem own_put (U' : List PV) : putN (sk "up") oK = oK ∧ putX (sk "up") (PV.lst U') oK [PV.int r, PV.str (Str.ofString y.name), PV.int l, PV.int m, PV.int (l - r + 1), PV.lst (U.map PV.str), PV.lst (C.map PV.str)] = [PV.int r, PV.str (Str.ofString y.name), PV.int l, PV.int m, PV.int (l - r + 1), PV.lst U', PV.lst (C.map PV.str)] := by
  refine ⟨by decide +kernel, ?_⟩
  simp (decide := true) [putX]
end
abbrev sgP2 (N : List Str) : PV := .lst (N.map PV.str)
/-- some of the signals, in their order -/
def Sel (N : List Str) : Prop := flagsOf N = N
theorem Sel.sub {N : List Str} (h : Sel N) : ∀ n ∈ N, n ∈ sigs := fun n hn => by
  rw [← h] at hn
  exact (List.mem_filter.mp hn).1
theorem Sel.len {N : List Str} (h : Sel N) : N.length ≤ 7 := by
  rw [← h]
  exact List.length_filter_le _ _
theorem flags_cong {A B : List Str} (h : ∀ x, x ∈ A ↔ x ∈ B) : flagsOf A = flagsOf B := by
  unfold flagsOf
  congr 1
  funext x
  rw [decide_eq_decide]
  exact h x
theorem flags_idem (N : List Str) : flagsOf (flagsOf N) = flagsOf N := by
  unfold flagsOf
  refine List.filter_congr fun x hx => ?_
  rw [decide_eq_decide, List.mem_filter]
  simp [hx]
theorem flags_mem {x : Str} {N : List Str} : x ∈ flagsOf N ↔ x ∈ sigs ∧ x ∈ N := by
  unfold flagsOf
  rw [List.mem_filter, decide_eq_true_eq]
theorem flags_raise (F N : List Str) : flagsOf (raiseF F N) = sigs.filter fun x => decide (x ∈ flagsOf F) || decide (x ∈ flagsOf N) := by
  show sigs.filter _ = _
  refine List.filter_congr fun x hx => ?_
  rw [Bool.eq_iff_iff]
  simp only [decide_eq_true_eq, Bool.or_eq_true, raise_mem, flags_mem]
  constructor
  · rintro (h | h)
    · exact .inr ⟨hx, h⟩
    · exact .inl ⟨hx, h⟩
  · rintro (h | h)
    · exact .inr h.2
    · exact .inl h.2
theorem firstT_flags {N N' C : List Str} (h : flagsOf N = flagsOf N') : firstT N C = firstT N' C := by
  unfold firstT
  congr 1
  refine List.filter_congr fun x hx => ?_
  rw [decide_eq_decide]
  have a : x ∈ N ↔ x ∈ N' := by
    have e : x ∈ flagsOf N ↔ x ∈ flagsOf N' := by rw [h]
    rw [flags_mem, flags_mem] at e
    exact ⟨fun z => (e.mp ⟨hx, z⟩).2, fun z => (e.mpr ⟨hx, z⟩).2⟩
  rw [a]
theorem firstT_eq (N C : List Str) : firstT N C = ((flagsOf N).filter fun x => decide (x ∈ C)).head? := by
  unfold firstT flagsOf
  rw [List.filter_filter]
  congr 1
  refine List.filter_congr fun x _ => ?_
  rw [Bool.eq_iff_iff]
  simp only [decide_eq_true_eq, Bool.and_eq_true]
  exact and_comm
/-! ### a ratio, its scale within top and bottom -/
theorem nd_ten {t a : Nat} (h : 1 ≤ t) : nd (t * 10 ^ a) = nd t + a := by
  have h1 := nd_le h
  have h2 := nd_lt t
  have h3 := nd_pos t
  refine nd_of (by omega) ?_ ?_
  · rw [show nd t + a - 1 = (nd t - 1) + a by omega, Nat.pow_add]
    exact Nat.mul_le_mul_right _ h1
  · rw [Nat.pow_add]
    exact Nat.mul_lt_mul_of_pos_right h2 (ten_pos _)
theorem side_in (t b a c : Nat) (x : Int) : ∃ k, 0 < k ∧ sideH (t * 10 ^ a) x = sideH t (x + a - c) * k ∧ sideL (b * 10 ^ c) x = sideL b (x + a - c) * k := by
  refine ⟨10 ^ (a + x.toNat - (x + a - c).toNat), ten_pos _, ?_, ?_⟩
  · unfold sideH
    rw [Nat.mul_assoc, ← Nat.pow_add, Nat.mul_assoc, ← Nat.pow_add]
    congr 2
    omega
  · unfold sideL
    rw [Nat.mul_assoc, ← Nat.pow_add, Nat.mul_assoc, ← Nat.pow_add]
    congr 2
    omega
theorem prt_in {a U k : Nat} (hk : 0 < k) : prt (a * k) (U * k) = prt a U := by
  have e1 : a * k = 0 ↔ a = 0 := by rw [Nat.mul_eq_zero]; exact ⟨fun z => z.resolve_right (by omega), .inl⟩
  have e2 : 2 * (a * k) < U * k ↔ 2 * a < U := by rw [← Nat.mul_assoc]; exact Nat.mul_lt_mul_right hk
  have e3 : 2 * (a * k) = U * k ↔ 2 * a = U := by rw [← Nat.mul_assoc]; exact ⟨fun h => Nat.eq_of_mul_eq_mul_right hk h, fun h => by rw [h]⟩
  unfold prt
  simp only [e1, e2, e3]
theorem stl_of {y : Wy} {r l m s i : Int} {e e' : Exa} (h1 : e.first = e'.first) (h2 : ∀ p, e.whole p = e'.whole p) (h3 : ∀ p, e.part p = e'.part p) : stl y r l m s e i = stl y r l m s e' i := by
  have hf : fin r l e = fin r l e' := by unfold fin; rw [h1]
  have hw : stlW y r l s e i = stlW y r l s e' i := by unfold stlW; rw [hf, h2, h3]
  have hn : ∀ p, stlN r l e i p = stlN r l e' i p := fun p => by unfold stlN; rw [hf, h3, h1]
  unfold stl
  rw [hw, hn]
theorem stl_in {y : Wy} {r l m s i : Int} {t b a c : Nat} {z : Int} (ht : 1 ≤ t) (hb : 1 ≤ b) (hz : z = (a : Int) - c) : stl y r l m s (.ratio (t * 10 ^ a) (b * 10 ^ c) 0) i = stl y r l m s (.ratio t b z) i := by
  refine stl_of ?_ (fun p => ?_) (fun p => ?_)
  · show fst (t * 10 ^ a) (b * 10 ^ c) + 0 = fst t b + z
    obtain ⟨k, hk, e1, e2⟩ := side_in t b a c (-(((nd t + a : Nat) : Int) - (nd b + c : Nat)))
    unfold fst
    rw [nd_ten ht, nd_ten hb, e1, e2, show -(((nd t + a : Nat) : Int) - (nd b + c : Nat)) + a - c = -((nd t : Int) - nd b) by omega]
    have e : ∀ u v : Nat, u * k < v * k ↔ u < v := fun u v => Nat.mul_lt_mul_right hk
    by_cases h : sideH t (-((nd t : Int) - nd b)) < sideL b (-((nd t : Int) - nd b))
    · rw [if_pos h, if_pos ((e _ _).mpr h)]; omega
    · rw [if_neg h, if_neg (fun q => h ((e _ _).mp q))]; omega
  · show sideH (t * 10 ^ a) (0 - p) / sideL (b * 10 ^ c) (0 - p) = sideH t (z - p) / sideL b (z - p)
    obtain ⟨k, hk, e1, e2⟩ := side_in t b a c (0 - p)
    rw [e1, e2, show (0 : Int) - p + a - c = z - p by omega, Nat.mul_div_mul_right _ _ hk]
  · show prt (sideH (t * 10 ^ a) (0 - p) % sideL (b * 10 ^ c) (0 - p)) (sideL (b * 10 ^ c) (0 - p)) = prt (sideH t (z - p) % sideL b (z - p)) (sideL b (z - p))
    obtain ⟨k, hk, e1, e2⟩ := side_in t b a c (0 - p)
    rw [e1, e2, show (0 : Int) - p + a - c = z - p by omega, Nat.mul_mod_mul_right, prt_in hk]
abbrev Clo := List (Str × Addr)
/-! ### what a call leaves -/
/-- all but what stands at d stays, lambdas left out -/
def Keep (d : Addr → Prop) (M M' : Mem) : Prop := ∀ b m, ¬ d b → M b = some m → (∀ L cl vs, m ≠ .lam L cl vs) → M' b = some m
theorem Keep.lst {d : Addr → Prop} {M M' : Mem} (k : Keep d M M') {b : Addr} {xs : List PV} (h : ¬ d b) (e : M b = some (.lst xs)) : M' b = some (.lst xs) := k b _ h e (fun L cl vs z => by cases z)
theorem Keep.dic {d : Addr → Prop} {M M' : Mem} (k : Keep d M M') {b : Addr} {ks : List Key} {xs : List PV} (h : ¬ d b) (e : M b = some (.dic ks xs)) : M' b = some (.dic ks xs) := k b _ h e (fun L cl vs z => by cases z)
theorem Keep.ins {d : Addr → Prop} {M M' : Mem} (k : Keep d M M') {b C : Addr} {ns : List Str} {xs : List PV} (h : ¬ d b) (e : M b = some (.ins C ns xs)) : M' b = some (.ins C ns xs) := k b _ h e (fun L cl vs z => by cases z)
theorem Keep.tab {d : Addr → Prop} {M M' : Mem} (k : Keep d M M') {b : Addr} {q : Str} (h : ¬ d b) (e : M b = some (.tab q)) : M' b = some (.tab q) := k b _ h e (fun L cl vs z => by cases z)
theorem calm_is {M : Mem} {b : Addr} {m : MO} (e : M b = some m) (h : ∀ L cl vs, m ≠ .lam L cl vs) : calmL M b = some m := by
  unfold calmL
  rw [e]
  cases m <;> first | rfl | exact absurd rfl (h _ _ _)
theorem of_calm_is {M : Mem} {b : Addr} {m : MO} (e : calmL M b = some m) (h : ∀ L cl vs, m ≠ .lam L cl vs) : M b = some m := by
  rcases of_calm e with z | ⟨L, cl, xs, _, q⟩
  · exact z.1
  · exact absurd q (h _ _ _)
theorem Ctx.calm {K : PySem.W.Frag} {mg : Str → Option Value} {T : Tx K mg} {M : Mem} {a d1 d2 : Addr} {y : Wy} {r l m : Int} {F C : List Str} (c : Ctx T M a d1 d2 y r l m F C) : Ctx T (calmL M) a d1 d2 y r l m F C := by
  obtain ⟨vs, h1⟩ := c.fl
  obtain ⟨ws, h2⟩ := c.ca
  exact ⟨calm_ins c.self, ⟨vs, calm_dic h1⟩, ⟨ws, calm_dic h2⟩, c.ne, c.nf, c.lf, c.room, c.least, c.most⟩
theorem Ctx.to {K : PySem.W.Frag} {mg : Str → Option Value} {T : Tx K mg} {M M' : Mem} {a d1 d2 : Addr} {y : Wy} {r l m : Int} {F C : List Str} (c : Ctx T M a d1 d2 y r l m F C) (h0 : M' a = M a) (h1 : M' d1 = M d1) (h2 : M' d2 = M d2) : Ctx T M' a d1 d2 y r l m F C := by
  obtain ⟨v1, e1⟩ := c.fl
  obtain ⟨v2, e2⟩ := c.ca
  exact ⟨h0.trans c.self, ⟨v1, h1.trans e1⟩, ⟨v2, h2.trans e2⟩, c.ne, c.nf, c.lf, c.room, c.least, c.most⟩
/-! ### data, shown -/
theorem log_sm {i : Int} (h : i.natAbs < 10 ^ 570) : i.natAbs.log2 < 1920 := by
  have := log_big h
  rwa [Int.natAbs_natCast] at this
theorem shown_nu {n : Nu} (hk : n.k = "plain" ∨ n.k = "end" ∨ n.k = "none") (h : n.Sm) : ∃ d, (∀ M : Mem, dat M n.tup = some d) ∧ d.showable = true ∧ d.hasDict = false ∧ d.shown.length ≤ sizeLine ∧ d.depth ≤ 3 := by
  have hs := h.s
  have hf := h.f
  have hp := h.p
  have l1 := log_sm (i := n.s) (Nat.lt_of_lt_of_le (show n.s.natAbs < 10 ^ 3 by omega) (pow10_le (by decide)))
  have l2 := log_sm (i := n.f) (Nat.lt_of_lt_of_le (show n.f.natAbs < 10 ^ 100 by omega) (pow10_le (by decide)))
  have l3 := log_sm (i := n.p) (Nat.lt_of_lt_of_le (show n.p.natAbs < 10 ^ 3 by omega) (pow10_le (by decide)))
  refine ⟨.tuple [.str (Str.ofString n.k), .int n.s, .int n.f, .int n.p], fun _ => rfl, ?_, rfl, ?_, (by first | exact (by decide : (1 : Nat) ≤ 3) | exact (by decide : (2 : Nat) ≤ 3))⟩
  · show (true && (decide (n.s.natAbs.log2 < 1920) && (decide (n.f.natAbs.log2 < 1920) && (decide (n.p.natAbs.log2 < 1920) && true)))) = true
    rw [decide_eq_true l1, decide_eq_true l2, decide_eq_true l3]
    rfl
  · refine Nat.le_trans (tupleText_len_le _) ?_
    have a1 := int_text_len_1921 l1
    have a2 := int_text_len_1921 l2
    have a3 := int_text_len_1921 l3
    have a0 : (reprText (Str.ofString n.k)).length ≤ 20 := by rcases hk with e | e | e <;> rw [e] <;> decide +kernel
    show (reprText (Str.ofString n.k)).length + ((Str.ofString (toString n.s)).length + ((Str.ofString (toString n.f)).length + ((Str.ofString (toString n.p)).length + 0))) + 2 * 4 + 3 ≤ sizeLine
    rw [sizeLine_eq]
    omega
theorem shown_trap {n : Str} (hn : n ∈ sigs) : ∃ d, (∀ M : Mem, dat M (.tup [.str "trapped", .str n]) = some d) ∧ d.showable = true ∧ d.hasDict = false ∧ d.shown.length ≤ sizeLine ∧ d.depth ≤ 3 := by
  refine ⟨.tuple [.str "trapped", .str n], fun _ => rfl, rfl, rfl, ?_, (by first | exact (by decide : (1 : Nat) ≤ 3) | exact (by decide : (2 : Nat) ≤ 3))⟩
  have h : ∀ z ∈ sigs, (PyData.tuple [.str "trapped", .str z]).shown.length ≤ 1000 := by decide +kernel
  exact len_ok (h n hn)
theorem eq_cons {s : Str} {ss : List Str} {M : Mem} {Q : TQ.PK} : bEq (.lst ((s :: ss).map PV.str)) (.lst []) M Q = Q (.bl false) M := by
  have e : dat M (.lst ((s :: ss).map PV.str)) = some (.list (.str s :: ss.map PyData.str)) := by
    show (dat0s ((s :: ss).map PV.str)).map PyData.list = _
    rw [(dat0s_str (s :: ss)).1]
    rfl
  show (match dat M (.lst ((s :: ss).map PV.str)), dat M (.lst []) with
    | some d, some e => min d.depth e.depth ≤ 64 ∧ Q (.bl (if false then !PyData.eqv d e else PyData.eqv d e)) M
    | _, _ => False) = _
  rw [e]
  exact propext ⟨fun z => z.2, fun z => ⟨Nat.le_trans (Nat.min_le_right _ _) (by decide), z⟩⟩
theorem firstT_mem {N C : List Str} {n : Str} (h : firstT N C = some n) : n ∈ sigs := by
  unfold firstT at h
  exact (List.mem_filter.mp (List.mem_of_mem_head? h)).1
/-! ### some of a list -/
theorem filter_sub : ∀ {a b : List Str}, a.Sublist b → b.Nodup → b.filter (fun s => decide (s ∈ a)) = a
  | [], [], _, _ => rfl
  | a, b :: bs, h, nd => by
    have nb : b ∉ bs := (List.nodup_cons.mp nd).1
    have nd' := (List.nodup_cons.mp nd).2
    cases h with
    | cons _ h =>
      have hb : b ∉ a := fun z => nb (h.subset z)
      rw [List.filter_cons_of_neg (by simpa using hb)]
      exact filter_sub h nd'
    | cons_cons _ h =>
      rename_i a
      rw [List.filter_cons_of_pos (by simp)]
      congr 1
      rw [← filter_sub h nd']
      apply List.filter_congr
      intro x hx
      have : x ≠ b := fun z => nb (z ▸ hx)
      rw [filter_sub h nd']
      simp [this]
theorem flagsOf_sub {N : List Str} (h : N.Sublist sigs) : flagsOf N = N := filter_sub h (by decide +kernel)
def selF (P : Nat → Prop) [DecidablePred P] : Nat → List Str → List Str
  | _, [] => []
  | k, x :: xs => if P k then x :: selF P (k + 1) xs else selF P (k + 1) xs
theorem selF_sub (P : Nat → Prop) [DecidablePred P] : ∀ (xs : List Str) (k : Nat), (selF P k xs).Sublist xs
  | [], k => .slnil
  | x :: xs, k => by
    unfold selF
    split
    · exact (selF_sub P xs (k + 1)).cons_cons x
    · exact (selF_sub P xs (k + 1)).cons x
/-- the picked ones of a list, by their places -/
def pickS (P : Nat → Prop) [DecidablePred P] (xs : List Str) : PV → Option PV
  | .int k => if P k.toNat then (xs[k.toNat]?).map PV.str else none
  | _ => none
theorem pick_map (P : Nat → Prop) [DecidablePred P] : ∀ (xs pre : List Str), ((List.range' pre.length xs.length).map fun i => PV.int ((i : Nat) : Int)).filterMap (pickS P (pre ++ xs)) = (selF P pre.length xs).map PV.str
  | [], pre => rfl
  | x :: xs, pre => by
    have ih := pick_map P xs (pre ++ [x])
    rw [List.length_append, List.append_assoc] at ih
    have e : pickS P (pre ++ x :: xs) (.int (pre.length : Nat)) = if P pre.length then some (.str x) else none := by
      show (if P ((pre.length : Nat) : Int).toNat then ((pre ++ x :: xs)[((pre.length : Nat) : Int).toNat]?).map PV.str else none) = _
      rw [Int.toNat_natCast, List.getElem?_append_right (Nat.le_refl _), Nat.sub_self]
      rfl
    rw [List.length_cons, List.range'_succ, List.map_cons]
    unfold selF
    by_cases h : P pre.length
    · rw [List.filterMap_cons_some (e.trans (if_pos h)), if_pos h, List.map_cons]
      exact congrArg _ ih
    · rw [List.filterMap_cons_none (e.trans (if_neg h)), if_neg h]
      exact ih
theorem pick_range (P : Nat → Prop) [DecidablePred P] : ((List.range (Int.toNat 7)).map fun i => PV.int ((i : Nat) : Int)).filterMap (pickS P sigs) = (selF P 0 sigs).map PV.str := by
  rw [List.range_eq_range']
  exact pick_map P sigs []
theorem selF_Sel (P : Nat → Prop) [DecidablePred P] : Sel (selF P 0 sigs) := flagsOf_sub (selF_sub P sigs 0)
theorem pick_in {P : Nat → Prop} [DecidablePred P] {x : PV} (hx : x ∈ (List.range (Int.toNat 7)).map fun i => PV.int ((i : Nat) : Int)) : ∃ (k : Nat) (s : Str), x = .int k ∧ k < 7 ∧ atI (sigs.map PV.str) (k : Int) = some (.str s) ∧ pickS P sigs x = if P k then some (.str s) else none := by
  obtain ⟨k, hk, rfl⟩ := List.mem_map.mp hx
  have hk := List.mem_range.mp hk
  have h7 : k < sigs.length := hk
  refine ⟨k, sigs[k], rfl, hk, ?_, ?_⟩
  · rw [atI_in (by omega) (by rw [List.length_map]; omega), Int.toNat_natCast, List.getElem?_map, List.getElem?_eq_getElem h7]
    rfl
  · show (if P ((k : Nat) : Int).toNat then (sigs[((k : Nat) : Int).toNat]?).map PV.str else none) = _
    rw [Int.toNat_natCast, List.getElem?_eq_getElem h7]
    rfl

/-! ### what is told of answers -/
structure Nu.Fit (n : Nu) : Prop where
  sm : n.Sm
  kd : n.k = "plain" ∨ n.k = "end" ∨ n.k = "none"
theorem fit_p {s f p : Int} (o : okP s f p) : (Nu.mk "plain" s f p).Fit :=
  ⟨⟨o.1, ⟨o.2.1.1, Int.lt_of_le_of_lt o.2.1.2 (by decide)⟩, by have := o.2.2; show -250 ≤ p ∧ p ≤ 250; omega⟩, .inl rfl⟩
theorem fit_0 {k : String} {s : Int} (hs : 0 ≤ s ∧ s ≤ 1) (hk : k = "plain" ∨ k = "end" ∨ k = "none") : (Nu.mk k s 0 0).Fit := ⟨⟨hs, ⟨by show (0 : Int) ≤ 0; decide, by show (0 : Int) < 10 ^ 100; decide⟩, by show -250 ≤ (0 : Int) ∧ (0 : Int) ≤ 250; decide⟩, hk⟩
theorem Nu.V.fit {n : Nu} (h : n.V) : n.Fit := ⟨h.sm, by
  rcases h.kd with z | z | z
  · exact .inl z.1
  · exact .inr (.inl z.1)
  · exact .inr (.inr (by rw [z]))⟩
theorem fit_nght {r l m s i : Int} (hs : 0 ≤ s ∧ s ≤ 1) (hr : 1 ≤ r ∧ r ≤ 24) (hl : -60 ≤ l ∧ l ≤ 0) (hm : 0 ≤ m ∧ m ≤ 60) : (nghtN r l m s i).Fit :=
  fit_p (p := min (max i (l - r + 1)) m) ⟨hs, ⟨Int.le_refl 0, by show (0 : Int) ≤ 10 ^ 60 - 1; decide⟩, by show -200 ≤ min (max i (l - r + 1)) m ∧ min (max i (l - r + 1)) m ≤ 200; omega⟩
theorem fit_stl {y : Wy} {r l m s : Int} {e : Exa} {i : Int} (g : e.Good) (hs : 0 ≤ s ∧ s ≤ 1) (hr : 1 ≤ r ∧ r ≤ 24) (hl : -60 ≤ l ∧ l ≤ 0) (hm : 0 ≤ m ∧ m ≤ 60) : (stl y r l m s e i).1.Fit := by
  have ok := stlW_ok (y := y) (s := s) (ideal := i) g hr hl
  unfold stl
  generalize stlW y r l s e i = W at *
  obtain ⟨w, p⟩ := W
  dsimp only at ok ⊢
  split
  · rename_i h
    unfold tooG
    dsimp only
    split
    · exact fit_0 hs (.inr (.inl rfl))
    · rename_i h2
      have h24 : 10 ^ r.toNat ≤ 10 ^ 24 := pow10_le (by omega)
      have h1 := ten_pos r.toNat
      exact fit_p ⟨hs, ⟨by show 0 ≤ ((10 ^ r.toNat : Nat) : Int) - 1; omega, by show ((10 ^ r.toNat : Nat) : Int) - 1 ≤ 10 ^ 60 - 1; omega⟩, by show -200 ≤ m - r + 1 ∧ m - r + 1 ≤ 200; omega⟩
  · rename_i h
    have hn := nd_pos w
    have hp : p ≤ 200 := by
      rcases ok.2.2 with z | z
      · omega
      · omega
    exact fit_p ⟨hs, ⟨by show (0 : Int) ≤ (w : Nat); omega, by show ((w : Nat) : Int) ≤ 10 ^ 60 - 1; omega⟩, by show -200 ≤ p ∧ p ≤ 200; omega⟩
theorem stl_len {y : Wy} {r l m s : Int} {e : Exa} {i : Int} : (stl y r l m s e i).2.length ≤ 7 := by
  unfold stl
  split
  · show burstN.length ≤ 7; decide
  · exact List.length_filter_le _ _
theorem ratio_good {t b : Nat} {z : Int} (ht : 1 ≤ t) (hb : 1 ≤ b) (h1 : t < 10 ^ 100) (h2 : b < 10 ^ 100) : (Exa.ratio t b z).Good := ⟨⟨ht, hb⟩, Nat.lt_trans h1 (pow10_lt (by decide)), Nat.lt_trans h2 (pow10_lt (by decide))⟩

abbrev plN (s f p : Int) : Nu := ⟨"plain", s, f, p⟩
theorem hasNo_pl2 {s f p s2 f2 p2 : Int} : hasNo [plN s f p, plN s2 f2 p2] = false := by unfold hasNo; simp only [List.map_cons, List.map_nil]; decide +kernel
theorem hasNo_pl3 {s f p s2 f2 p2 s3 f3 p3 : Int} : hasNo [plN s f p, plN s2 f2 p2, plN s3 f3 p3] = false := by unfold hasNo; simp only [List.map_cons, List.map_nil]; decide +kernel
/-- the sums stay small -/
theorem sum_small {a b : Nu} (ha : a.Ok) (hb : b.Ok) (f1 : a.f < 10 ^ 130) (f2 : b.f < 10 ^ 130) (g : -700 ≤ a.p - b.p ∧ a.p - b.p ≤ 700) : (sgd a (min a.p b.p) + sgd b (min a.p b.p)).natAbs < 10 ^ 900 := by
  have one : ∀ {n : Nu} {q : Int}, n.Ok → n.f < 10 ^ 130 → n.p - q ≤ 700 → (sgd n q).natAbs < 10 ^ 830 := fun {n q} hn hf hq => by
    have h1 := hn.f.1
    clear hn
    have : n.f.toNat * 10 ^ (n.p - q).toNat < 10 ^ (130 + 700) := by
      rw [Nat.pow_add]
      exact Nat.mul_lt_mul_of_lt_of_le (by omega) (pow10_le (by omega)) (ten_pos _)
    have e : n.f * ((10 ^ (n.p - q).toNat : Nat) : Int) = ((n.f.toNat * 10 ^ (n.p - q).toNat : Nat) : Int) := by
      rw [Int.natCast_mul, Int.toNat_of_nonneg h1]
    unfold sgd
    rw [e]
    split
    · rw [Int.natAbs_natCast]; exact this
    · rw [Int.natAbs_neg, Int.natAbs_natCast]; exact this
  have o1 := one (q := min a.p b.p) ha f1 (by omega)
  have o2 := one (q := min a.p b.p) hb f2 (by omega)
  have k : 10 ^ 830 + 10 ^ 830 ≤ 10 ^ 900 := by decide +kernel
  exact Nat.lt_of_le_of_lt (Int.natAbs_add_le _ _) (Nat.lt_of_lt_of_le (Nat.add_lt_add o1 o2) k)
theorem okP_sm {s f p : Int} (h : okP s f p) : (plN s f p).Sm := ⟨h.1, ⟨h.2.1.1, by have := h.2.1.2; show f < 10 ^ 100; omega⟩, by have := h.2.2; show -250 ≤ p ∧ p ≤ 250; omega⟩
theorem okP_f {s f p : Int} (h : okP s f p) : 0 ≤ f ∧ f < 10 ^ 60 := ⟨h.2.1.1, by have := h.2.1.2; omega⟩
theorem okP_v {s f p : Int} (h : okP s f p) : (plN s f p).V := ⟨okP_sm h, .inl ⟨rfl, h⟩⟩
theorem prod_pl {s f p s2 f2 p2 : Int} : prodS (plN s f p) (plN s2 f2 p2) = some (plN (xorS s s2) (f * f2) (p + p2)) := by
  unfold prodS
  exact if_neg (show ¬ (("plain" : String) = "end" ∨ ("plain" : String) = "end") by decide)
theorem timS_pl {y : Wy} {r l m s f p s2 f2 p2 : Int} : timS y r l m (plN s f p) (plN s2 f2 p2) = setlS y r l m (plN (xorS s s2) (f * f2) (p + p2)) (p + p2) (p + p2) := by
  unfold timS
  rw [hasNo_pl2, if_neg (by decide), prod_pl]
  exact if_neg (show ¬ (("plain" : String) = "end") by decide)
theorem fusS_pl {y : Wy} {r l m s f p s2 f2 p2 s3 f3 p3 : Int} : fusS y r l m (plN s f p) (plN s2 f2 p2) (plN s3 f3 p3) = addS y r l m (plN (xorS s s2) (f * f2) (p + p2)) (plN s3 f3 p3) := by
  unfold fusS
  rw [hasNo_pl3, if_neg (by decide), prod_pl]
theorem near_far : ∀ (k w : Nat) (p i j : Int), 0 < w → w < 10 ^ k → p + k ≤ i → p + k ≤ j → near w p i = near w p j
  | 0, w, p, i, j, h, hk, _, _ => by rw [Nat.pow_zero] at hk; omega
  | k + 1, w, p, i, j, h, hk, hi, hj => by
    by_cases h0 : w % 10 = 0
    · rw [near_step (by omega) h0, near_step (by omega) h0]
      exact near_far k (w / 10) (p + 1) i j (by omega) (by rw [Nat.pow_succ] at hk; omega) (by omega) (by omega)
    · rw [near_stop (fun z => h0 z.2), near_stop (fun z => h0 z.2)]
theorem near_p : ∀ (k w : Nat) (p i : Int), 0 < w → w < 10 ^ k → (near w p i).2 ≤ p + k
  | 0, w, p, i, h, hk => by rw [Nat.pow_zero] at hk; omega
  | k + 1, w, p, i, h, hk => by
    by_cases h0 : p < i ∧ w % 10 = 0
    · rw [near_step h0.1 h0.2]
      have := near_p k (w / 10) (p + 1) i (by omega) (by rw [Nat.pow_succ] at hk; omega)
      omega
    · rw [near_stop h0]
      show p ≤ _
      omega
/-- far ideal powers are alike -/
theorem stl_far {y : Wy} {r l m s : Int} {e : Exa} {i j : Int} (g : e.Good) (hr : 1 ≤ r ∧ r ≤ 24) (hi : fin r l e + 24 ≤ i) (hj : fin r l e + 24 ≤ j) : stl y r l m s e i = stl y r l m s e j := by
  have hw := wfin_lt (l := l) g hr.1
  have h24 : 10 ^ r.toNat ≤ 10 ^ 24 := pow10_le (by omega)
  by_cases h0 : e.part (fin r l e) = 0
  · have hpos := Exa.nonzero g h0
    have en := near_far 24 (e.whole (fin r l e)) (fin r l e) i j hpos (by omega) (by omega) (by omega)
    have ep := near_p 24 (e.whole (fin r l e)) (fin r l e) j hpos (by omega)
    have ew : stlW y r l s e i = stlW y r l s e j := by unfold stlW; rw [if_pos h0, if_pos h0, en]
    have e2 : (stlW y r l s e j).2 = (near (e.whole (fin r l e)) (fin r l e) j).2 := by unfold stlW; rw [if_pos h0]
    have eN : stlN r l e i (stlW y r l s e j).2 = stlN r l e j (stlW y r l s e j).2 := by
      unfold stlN
      rw [if_pos h0, if_pos h0, if_pos h0, if_neg (show ¬ i < (stlW y r l s e j).2 by omega), if_neg (show ¬ j < (stlW y r l s e j).2 by omega)]
    unfold stl
    rw [ew, eN]
  · have ew : stlW y r l s e i = stlW y r l s e j := by unfold stlW; rw [if_neg h0, if_neg h0]
    have eN : stlN r l e i (stlW y r l s e j).2 = stlN r l e j (stlW y r l s e j).2 := by
      unfold stlN
      rw [if_neg h0, if_neg h0, if_neg h0]
    unfold stl
    rw [ew, eN]
theorem triS_pl {y : Wy} {r l m s f p : Int} (h : okP s f p) (hr : 1 ≤ r ∧ r ≤ 24) (hl : -60 ≤ l ∧ l ≤ 0) : triS y r l m (plN s f p) = if 0 < f then setlS y r l m (plN s f p) p (10 ^ 9) else (nghtN r l m s 0, []) := by
  have hf := okP_f h
  have hp := h.2.2
  unfold triS setlS
  rw [if_pos rfl]
  dsimp only
  by_cases h0 : f = 0
  · subst h0
    rw [if_pos rfl, if_pos rfl, if_neg (by decide)]
  · rw [if_neg h0, if_neg h0, if_pos (show 0 < f by omega), if_neg h0]
    obtain ⟨g, _⟩ := ratio_ok (t := f.toNat) (b := 1) (s := p) (r := r) (l := l) (by omega) (Nat.le_refl 1) (Nat.lt_trans (by omega : f.toNat < 10 ^ 60) (pow10_lt (by decide))) (by decide) (by omega) hr hl
    have hfr := fst_range (t := f.toNat) (b := 1) (k := 60) (l := 1) (by decide) (by decide) (by omega) (by decide)
    have hfin : fin r l (.ratio f.toNat 1 p) ≤ 300 := by
      show max (fst f.toNat 1 + p - r + 1) (l - r + 1) ≤ 300
      omega
    exact stl_far g hr (by omega) (by omega)
theorem rouS_pl {y : Wy} {r l m s f p : Int} : rouS y r l m (plN s f p) = setlS y r l m (plN s f p) p p := by unfold rouS setlS; rw [if_pos rfl]
theorem cmp_pl {s f p s2 f2 p2 : Int} : (0 < cmpS (plN s f p) (plN s2 f2 p2) ↔ sgd (plN s2 f2 p2) (min p p2) < sgd (plN s f p) (min p p2)) ∧ (cmpS (plN s f p) (plN s2 f2 p2) < 0 ↔ sgd (plN s f p) (min p p2) < sgd (plN s2 f2 p2) (min p p2)) := by
  unfold cmpS
  rw [if_pos (show bey (plN s f p) = 0 ∧ bey (plN s2 f2 p2) = 0 from ⟨if_pos rfl, if_pos rfl⟩)]
  dsimp only
  generalize sgd (plN s f p) (min p p2) = u
  generalize sgd (plN s2 f2 p2) (min p p2) = v
  constructor <;> (split <;> split <;> omega)
theorem raise_flags (L : List Str) (hs : ∀ x ∈ L, x ∈ sigs) : flagsOf (raiseF [] L) = flagsOf L := by
  unfold flagsOf
  congr 1
  funext x
  have : x ∈ raiseF [] L ↔ x ∈ L := by rw [raise_mem]; simp
  simp only [this]
theorem flags_flags (N : List Str) : flagsOf (flagsOf N) = flagsOf N := by
  unfold flagsOf
  apply List.filter_congr
  intro x hx
  have : x ∈ List.filter (fun s => decide (s ∈ N)) sigs ↔ x ∈ N := by
    rw [List.mem_filter]
    simp [hx]
  simp only [this]
theorem mem_flags {x : Str} {N : List Str} (h : x ∈ flagsOf N) : x ∈ sigs := (List.mem_filter.mp h).1
/-- the told signals are the raised ones -/
def Tidy (z : Res) : Prop := flagsOf (raiseF [] z.2) = z.2 ∧ z.2.length ≤ 7
theorem tidy_flags {n : Nu} {N : List Str} : Tidy (n, flagsOf N) := ⟨by show flagsOf (raiseF [] (flagsOf N)) = flagsOf N; rw [raise_flags _ fun x h => mem_flags h, flags_flags], List.length_filter_le _ _⟩
theorem tidy_nil {n : Nu} : Tidy (n, []) := ⟨show flagsOf (raiseF [] []) = [] by decide +kernel, Nat.zero_le _⟩
theorem tidy_stl {y : Wy} {r l m s : Int} {e : Exa} {i : Int} : Tidy (stl y r l m s e i) := by
  unfold stl
  split
  · exact ⟨by show flagsOf (raiseF [] burstN) = burstN; decide +kernel, by show burstN.length ≤ 7; decide⟩
  · exact tidy_flags
theorem tidy_setl {y : Wy} {r l m : Int} {n : Nu} {p i : Int} : Tidy (setlS y r l m n p i) := by
  unfold setlS
  split
  · exact tidy_nil
  · exact tidy_stl
theorem tidy_void {n : Nu} : Tidy (n, [("void" : Str)]) := ⟨by show flagsOf (raiseF [] [("void" : Str)]) = [("void" : Str)]; decide +kernel, by show 1 ≤ 7; decide⟩
theorem tidy_add {y : Wy} {r l m : Int} {a b : Nu} : Tidy (addS y r l m a b) := by
  unfold addS
  split
  · split
    · exact tidy_void
    · exact tidy_nil
  · split
    · exact tidy_nil
    · exact tidy_stl
/-- the drawn numbers -/
def drw (ns : List Int) (k : Int) : PV := trip (lpS (cell ns (1 + k))) (lfig (cell ns (1 + k)) 60) (lpP (cell ns (1 + k)))
def drwP (ns : List Int) : PV → Option PV
  | .int k => some (drw ns k)
  | _ => none
theorem drw_ok (ns : List Int) (k : Int) : okP (lpS (cell ns (1 + k))) (lfig (cell ns (1 + k)) 60) (lpP (cell ns (1 + k))) := by
  have h1 := lfig_r (c := cell ns (1 + k)) (most := 60) (by decide)
  have h2 := lpP_r (cell ns (1 + k))
  have e60 : (((10 ^ (60 : Int).toNat : Nat) : Int)) = 10 ^ 60 := by decide +kernel
  rw [e60] at h1
  exact ⟨by unfold lpS; omega, ⟨h1.1, by omega⟩, h2⟩
def mkP (C : Addr) : PV → Option PV
  | .tup [.int s, .int f, .int p] => some ((plN s f p).pv C)
  | _ => none
def tdP : PV → Option PV
  | .obj _ _ xs => some (.tup xs)
  | _ => none
def dcP : PV → Option PV
  | .tup xs => some (.tup (.str "plain" :: xs))
  | _ => none

/-! ### neighbours -/
def leadN (n : Nu) : Int := n.p + nd n.f.toNat - 1
def lplN (r l : Int) (n : Nu) : Int := max (leadN n - r + 1) (l - r + 1)
def greN (r m s : Int) : Nu := ⟨"plain", s, ((10 ^ r.toNat : Nat) : Int) - 1, m - r + 1⟩
def whoX (n : Nu) (q : Int) : Nat := sideH n.f.toNat (n.p - q) / sideL 1 (n.p - q)
def prtX (n : Nu) (q : Int) : Nat := prt (sideH n.f.toNat (n.p - q) % sideL 1 (n.p - q)) (sideL 1 (n.p - q))
/-- carried over, where there is a figure too many -/
def carN (r : Int) (w : Nat) (q : Int) : Nat × Int := if r < nd w then (w / 10, q + 1) else (w, q)
def capN (m s : Int) (v : Nat × Int) : Nu := if m < v.2 + nd v.1 - 1 then endN s else ⟨"plain", s, v.1, v.2⟩
def farN (r l m : Int) (n : Nu) (s : Int) : Nu :=
  if n.f = 0 then ⟨"plain", s, 1, l - r + 1⟩ else capN m s (carN r (whoX n (lplN r l n) + 1) (lplN r l n))
def neaN (r l m : Int) (n : Nu) : Nu :=
  if m < leadN n then greN r m n.s
  else if 0 < prtX n (lplN r l n) then ⟨"plain", n.s, whoX n (lplN r l n), lplN r l n⟩
  else if whoX n (lplN r l n) = 10 ^ (r - 1).toNat ∧ l - r + 1 < lplN r l n then ⟨"plain", n.s, ((10 ^ r.toNat : Nat) : Int) - 1, lplN r l n - 1⟩
  else ⟨"plain", n.s, (whoX n (lplN r l n) : Int) - 1, lplN r l n⟩
def nexN (r l m : Int) (n : Nu) (s : Int) : Nu :=
  if n.k = "end" then (if n.s = s then endN s else greN r m n.s)
  else if n.f = 0 ∨ n.s = s then farN r l m n s else neaN r l m n
/-- plain ones and ends -/
structure Nu.In (n : Nu) : Prop where
  s : 0 ≤ n.s ∧ n.s ≤ 1
  kd : (n.k = "plain" ∧ okP n.s n.f n.p) ∨ (n.k = "end" ∧ n.f = 0 ∧ n.p = 0)
theorem nd_60 {f : Int} (h : 0 ≤ f ∧ f ≤ 10 ^ 60 - 1) : 1 ≤ nd f.toNat ∧ nd f.toNat ≤ 60 := ⟨nd_pos _, nd_le_of (by decide) (by omega)⟩
theorem whoX_lt {n : Nu} (o : okP n.s n.f n.p) {r l : Int} (hr : 1 ≤ r ∧ r ≤ 24) (h0 : n.f ≠ 0) : whoX n (lplN r l n) < 10 ^ r.toNat := by
  have hf := o.2.1
  unfold whoX
  refine ratio_lt (by omega) (Nat.le_refl 1) ?_
  have h1 : nd 1 = 1 := rfl
  have : fst n.f.toNat 1 ≤ (nd n.f.toNat : Int) - 1 := by
    unfold fst
    split <;> omega
  have := nd_pos n.f.toNat
  unfold lplN leadN
  omega
theorem lpl_rg {n : Nu} (o : okP n.s n.f n.p) {r l : Int} (hr : 1 ≤ r ∧ r ≤ 24) (hl : -60 ≤ l ∧ l ≤ 0) : (-83 ≤ lplN r l n ∧ lplN r l n ≤ 259) ∧ leadN n - r + 1 ≤ lplN r l n ∧ l - r + 1 ≤ lplN r l n := by
  have h1 := nd_60 o.2.1
  have hp := o.2.2
  unfold lplN leadN
  omega
theorem at_lpl {n : Nu} (o : okP n.s n.f n.p) {r l : Int} (hr : 1 ≤ r ∧ r ≤ 24) (hl : -60 ≤ l ∧ l ≤ 0) : (1 ≤ 1 ∧ n.f.toNat < 10 ^ 2000 ∧ 1 < 10 ^ 2000 ∧ (-4000 ≤ n.p - lplN r l n ∧ n.p - lplN r l n ≤ 4000) ∧ sideL 1 (n.p - lplN r l n) < 2 ^ 8000) := by
  have h1 := lpl_rg o hr hl
  have hp := o.2.2
  have hf := o.2.1
  have := at_ok (t := n.f.toNat) (b := 1) (s := n.p) (p := lplN r l n) (Nat.lt_trans (by omega : n.f.toNat < 10 ^ 60) (pow10_lt (by decide))) (Nat.lt_of_lt_of_le (by decide : 1 < 10 ^ 1) (pow10_le (by decide))) (by omega)
  exact ⟨Nat.le_refl 1, this⟩
theorem car_rg {r : Int} {w : Nat} {q : Int} (hr : 1 ≤ r ∧ r ≤ 24) (h : w ≤ 10 ^ r.toNat) : (carN r w q).1 < 10 ^ 24 ∧ q ≤ (carN r w q).2 ∧ (carN r w q).2 ≤ q + 1 := by
  have h24 : 10 ^ r.toNat ≤ 10 ^ 24 := pow10_le (by omega)
  unfold carN
  split
  · exact ⟨by show w / 10 < _; omega, by show q ≤ q + 1; omega, Int.le_refl _⟩
  · rename_i h1
    refine ⟨?_, Int.le_refl _, by show q ≤ q + 1; omega⟩
    show w < _
    exact Nat.lt_of_lt_of_le (nd_lt w) (pow10_le (by omega))
theorem Nu.In.sm {n : Nu} (h : n.In) : n.Sm := by
  rcases h.kd with ⟨_, o⟩ | ⟨_, hf, hp⟩
  · have := o.2.1
    have := o.2.2
    exact ⟨h.s, by omega, by omega⟩
  · exact ⟨h.s, by omega, by omega⟩
theorem Nu.In.nn {n : Nu} (h : n.In) : ¬ n.k = "none" := by
  rcases h.kd with z | z <;> rw [z.1] <;> decide
theorem hasNo_in {n o : Nu} (hn : n.In) (ho : o.In) : hasNo [n, o] = false := by
  unfold hasNo
  have h : ∀ z : Nu, z.In → Str.ofString "none" ≠ Str.ofString z.k := fun z hz => by
    rcases hz.kd with q | q <;> rw [q.1] <;> decide
  exact decide_eq_false (fun z => by
    simp only [List.map_cons, List.map_nil, List.mem_cons, List.not_mem_nil, or_false] at z
    exact z.elim (h n hn) (h o ho))
theorem gre_in {r m s : Int} (hr : 1 ≤ r ∧ r ≤ 24) (hm : 0 ≤ m ∧ m ≤ 60) (hs : 0 ≤ s ∧ s ≤ 1) : (greN r m s).In := by
  have h24 : 10 ^ r.toNat ≤ 10 ^ 24 := pow10_le (by omega)
  have h1 := ten_pos r.toNat
  exact ⟨hs, .inl ⟨rfl, hs, ⟨by show 0 ≤ ((10 ^ r.toNat : Nat) : Int) - 1; omega, by show ((10 ^ r.toNat : Nat) : Int) - 1 ≤ 10 ^ 60 - 1; omega⟩, by show -200 ≤ m - r + 1 ∧ m - r + 1 ≤ 200; omega⟩⟩
theorem end_in {s : Int} (hs : 0 ≤ s ∧ s ≤ 1) : (endN s).In := ⟨hs, .inr ⟨rfl, rfl, rfl⟩⟩
theorem pln_in {s f p : Int} (o : okP s f p) : (⟨"plain", s, f, p⟩ : Nu).In := ⟨o.1, .inl ⟨rfl, o⟩⟩
theorem far_in {r l m : Int} {n : Nu} (o : okP n.s n.f n.p) (hr : 1 ≤ r ∧ r ≤ 24) (hl : -60 ≤ l ∧ l ≤ 0) (hm : 0 ≤ m ∧ m ≤ 60) {s : Int} (hs : 0 ≤ s ∧ s ≤ 1) : (farN r l m n s).In := by
  unfold farN
  split
  · exact pln_in ⟨hs, ⟨by decide, by decide⟩, by omega, by omega⟩
  · rename_i h
    have hw := whoX_lt (l := l) o hr h
    have hq := lpl_rg o hr hl
    have hc := car_rg (q := lplN r l n) (w := whoX n (lplN r l n) + 1) hr hw
    generalize carN r (whoX n (lplN r l n) + 1) (lplN r l n) = v at *
    unfold capN
    have := nd_pos v.1
    split
    · exact end_in hs
    · exact pln_in ⟨hs, ⟨by omega, by omega⟩, by omega, by omega⟩
theorem nea_in {r l m : Int} {n : Nu} (o : okP n.s n.f n.p) (h0 : n.f ≠ 0) (hr : 1 ≤ r ∧ r ≤ 24) (hl : -60 ≤ l ∧ l ≤ 0) (hm : 0 ≤ m ∧ m ≤ 60) : (neaN r l m n).In := by
  have hw := whoX_lt (l := l) o hr h0
  have hq := lpl_rg o hr hl
  have h24 : 10 ^ r.toNat ≤ 10 ^ 24 := pow10_le (by omega)
  have h1 := ten_pos r.toNat
  have hf := o.2.1
  have hz : prtX n (lplN r l n) = 0 → whoX n (lplN r l n) ≠ 0 := fun z => by
    have := Exa.nonzero (e := .ratio n.f.toNat 1 n.p) (p := lplN r l n) ⟨⟨by omega, Nat.le_refl 1⟩, (at_lpl o hr hl).2.1, (at_lpl o hr hl).2.2.1⟩ z
    exact Nat.pos_iff_ne_zero.mp this
  unfold neaN
  have hq2 : ¬ m < leadN n → lplN r l n ≤ m := by unfold lplN; omega
  generalize whoX n (lplN r l n) = w at *
  generalize prtX n (lplN r l n) = t at *
  generalize lplN r l n = q at *
  split
  · exact gre_in hr hm o.1
  rename_i h2
  have := hq2 h2
  split
  · exact pln_in ⟨o.1, ⟨by omega, by omega⟩, by omega, by omega⟩
  split
  · exact pln_in ⟨o.1, ⟨by omega, by omega⟩, by omega, by omega⟩
  · have := hz (by omega)
    exact pln_in ⟨o.1, ⟨by omega, by omega⟩, by omega, by omega⟩
theorem nex_in {r l m : Int} {n : Nu} (h : n.In) (hr : 1 ≤ r ∧ r ≤ 24) (hl : -60 ≤ l ∧ l ≤ 0) (hm : 0 ≤ m ∧ m ≤ 60) {s : Int} (hs : 0 ≤ s ∧ s ≤ 1) : (nexN r l m n s).In := by
  unfold nexN
  split
  · split
    · exact end_in hs
    · exact gre_in hr hm h.s
  · rename_i h1
    have o : okP n.s n.f n.p := h.kd.elim (fun z => z.2) (fun z => absurd z.1 h1)
    split
    · exact far_in o hr hl hm hs
    · rename_i h2
      exact nea_in o (fun z => h2 (.inl z)) hr hl hm

/-! ### neighbours, by natural numbers alone -/
theorem prt_zero {a U : Nat} : prt a U = 0 ↔ a = 0 := by
  unfold prt
  constructor
  · intro h
    split at h
    · assumption
    · split at h
      · cases h
      · split at h <;> cases h
  · intro h
    rw [if_pos h]
theorem prt_mono {a b U : Nat} (h : a ≤ b) : prt a U ≤ prt b U := by
  unfold prt
  by_cases h0 : a = 0
  · rw [if_pos h0]; exact Nat.zero_le _
  · rw [if_neg h0, if_neg (by omega : ¬ b = 0)]
    by_cases h1 : 2 * a < U
    · rw [if_pos h1]
      split
      · exact Nat.le_refl _
      · split <;> decide
    · rw [if_neg h1, if_neg (by omega : ¬ 2 * b < U)]
      by_cases h2 : 2 * a = U
      · rw [if_pos h2]
        split <;> decide
      · rw [if_neg h2, if_neg (by omega : ¬ 2 * b = U)]
        exact Nat.le_refl _
theorem prt_mul {a U k : Nat} (hk : 0 < k) : prt (a * k) (U * k) = prt a U := by
  have e1 : a * k = 0 ↔ a = 0 := by
    constructor
    · intro h
      rcases Nat.mul_eq_zero.mp h with z | z
      · exact z
      · omega
    · intro h; rw [h, Nat.zero_mul]
  have e2 : 2 * (a * k) < U * k ↔ 2 * a < U := by rw [← Nat.mul_assoc]; exact Nat.mul_lt_mul_right hk
  have e3 : 2 * (a * k) = U * k ↔ 2 * a = U := by rw [← Nat.mul_assoc]; exact ⟨fun h => Nat.eq_of_mul_eq_mul_right hk h, fun h => by rw [h]⟩
  unfold prt
  simp only [e1, e2, e3]
theorem goes_mono {y : Wy} {s l : Int} {p p' : Nat} (h : p ≤ p') (h1 : 1 ≤ p) (h3 : p' ≤ 3) (g : y.goes s l p = true) : y.goes s l p' = true := by
  cases y <;> simp only [Wy.goes, decide_eq_true_eq, Bool.or_eq_true, Bool.and_eq_true] at g ⊢ <;> try assumption
  · omega
  · omega
  · rcases g with g | g
    · left; omega
    · by_cases z : p' = p
      · right; rw [z]; exact g
      · left; have := g.1; omega
theorem nd_mono {a b : Nat} (h : a ≤ b) : nd a ≤ nd b := nd_le_of (nd_pos b) (Nat.lt_of_le_of_lt h (nd_lt b))
theorem big_iff {w Q T : Nat} (hw : 1 ≤ w) : 10 ^ T ≤ w * 10 ^ Q ↔ T < nd w + Q := by
  have hn := nd_pos w
  constructor
  · intro h
    refine Nat.not_le.mp fun z => ?_
    have h1 : w * 10 ^ Q < 10 ^ nd w * 10 ^ Q := Nat.mul_lt_mul_of_pos_right (nd_lt w) (ten_pos Q)
    rw [← Nat.pow_add] at h1
    have h2 : 10 ^ (nd w + Q) ≤ 10 ^ T := pow10_le z
    omega
  · intro h
    have h1 : 10 ^ (nd w - 1) * 10 ^ Q ≤ w * 10 ^ Q := Nat.mul_le_mul_right _ (nd_le hw)
    rw [← Nat.pow_add] at h1
    exact Nat.le_trans (pow10_le (by omega)) h1
/-- the place of the last figure -/
def Qx (R L0 X : Nat) : Nat := max (nd X - R) L0
def wxN (R L0 X : Nat) : Nat := X / 10 ^ Qx R L0 X
def gxN (R T : Nat) : Nat := (10 ^ R - 1) * 10 ^ (T - R)
theorem Qx_lo {R L0 X : Nat} (hR : 1 ≤ R) (h : X < 10 ^ (L0 + R)) : Qx R L0 X = L0 := by
  have := nd_le_of (c := L0 + R) (by omega) h
  unfold Qx
  omega
theorem Qx_hi {R L0 X Q : Nat} (hR : 1 ≤ R) (h : L0 < Q) (h1 : 10 ^ (Q + R - 1) ≤ X) (h2 : X < 10 ^ (Q + R)) : Qx R L0 X = Q := by
  have := nd_of (c := Q + R) (by omega) h1 h2
  unfold Qx
  omega
section
variable {R L0 T X : Nat} (hR : 1 ≤ R)
theorem Qx_ge : L0 ≤ Qx R L0 X := Nat.le_max_right _ _
theorem x_lt : X < 10 ^ (Qx R L0 X + R) := Nat.lt_of_lt_of_le (nd_lt X) (pow10_le (by unfold Qx; omega))
theorem wx_lt : wxN R L0 X < 10 ^ R := by
  unfold wxN
  rw [Nat.div_lt_iff_lt_mul (ten_pos _), ← Nat.pow_add, Nat.add_comm]
  exact x_lt
theorem wx_ge (hX : 1 ≤ X) (h : L0 < Qx R L0 X) (hR : 1 ≤ R) : 10 ^ (R - 1) ≤ wxN R L0 X := by
  unfold wxN
  rw [Nat.le_div_iff_mul_le (ten_pos _), ← Nat.pow_add]
  refine Nat.le_trans (pow10_le ?_) (nd_le hX)
  unfold Qx at h ⊢
  omega
theorem wx_mul : wxN R L0 X * 10 ^ Qx R L0 X ≤ X := Nat.div_mul_le_self _ _
theorem wx_succ : X < (wxN R L0 X + 1) * 10 ^ Qx R L0 X := by
  have := Nat.lt_mul_div_succ X (ten_pos (Qx R L0 X))
  rw [Nat.mul_comm] at this
  exact this
theorem Qx_mono {X' : Nat} (h : X ≤ X') : Qx R L0 X ≤ Qx R L0 X' := by
  have := nd_mono h
  unfold Qx
  omega
theorem gx_eq (hT : R ≤ T) : gxN R T + 10 ^ (T - R) = 10 ^ T := by
  unfold gxN
  have h1 := ten_pos R
  have e : 10 ^ T = 10 ^ R * 10 ^ (T - R) := by rw [← Nat.pow_add]; congr 1; omega
  rw [e, Nat.sub_mul, Nat.one_mul]
  have := Nat.le_mul_of_pos_left (10 ^ (T - R)) h1
  omega
theorem gx_lt (hT : R ≤ T) : gxN R T < 10 ^ T := by
  have := gx_eq hT
  have := ten_pos (T - R)
  omega
theorem gx_ge (hR : 1 ≤ R) (hT : R ≤ T) : 10 ^ (T - 1) ≤ gxN R T := by
  have := gx_eq hT
  have h1 : 10 ^ (T - R) ≤ 10 ^ (T - 1) := pow10_le (by omega)
  have h2 : 10 ^ T = 10 * 10 ^ (T - 1) := by rw [show T = (T - 1) + 1 by omega, Nat.pow_succ, Nat.mul_comm]; rfl
  omega
/-- what is below the bound is at most the greatest one -/
theorem le_gx {W Q : Nat} (hR : 1 ≤ R) (hT : R ≤ T) (hW : W ≤ 10 ^ R) (h : W * 10 ^ Q < 10 ^ T) : W * 10 ^ Q ≤ gxN R T := by
  rcases Nat.eq_zero_or_pos W with z | z
  · rw [z, Nat.zero_mul]; exact Nat.zero_le _
  by_cases hQ : Q + R < T
  · have h1 : W * 10 ^ Q ≤ 10 ^ R * 10 ^ Q := Nat.mul_le_mul_right _ hW
    rw [← Nat.pow_add] at h1
    have h2 : 10 ^ (R + Q) ≤ 10 ^ (T - 1) := pow10_le (by omega)
    exact Nat.le_trans h1 (Nat.le_trans h2 (gx_ge hR hT))
  · have hQT : Q ≤ T := Nat.not_lt.mp fun z2 => by
      have h1 : 10 ^ T ≤ 10 ^ Q := pow10_le (by omega)
      have h2 : 10 ^ Q ≤ W * 10 ^ Q := Nat.le_mul_of_pos_left _ z
      omega
    have e : 10 ^ T = 10 ^ (T - Q) * 10 ^ Q := by rw [← Nat.pow_add]; congr 1; omega
    rw [e] at h
    have h1 := Nat.lt_of_mul_lt_mul_right h
    have h2 : (W + 1) * 10 ^ Q ≤ 10 ^ (T - Q) * 10 ^ Q := Nat.mul_le_mul_right _ h1
    rw [← e, Nat.add_mul, Nat.one_mul] at h2
    have h3 : 10 ^ (T - R) ≤ 10 ^ Q := pow10_le (by omega)
    have := gx_eq hT
    omega
/-- where the next one is beyond the bound -/
theorem at_top (hX : 1 ≤ X) (hR : 1 ≤ R) (hT : L0 + R ≤ T) (h1 : wxN R L0 X * 10 ^ Qx R L0 X < 10 ^ T) (h2 : 10 ^ T ≤ (wxN R L0 X + 1) * 10 ^ Qx R L0 X) : wxN R L0 X * 10 ^ Qx R L0 X = gxN R T ∧ (wxN R L0 X + 1) * 10 ^ Qx R L0 X = 10 ^ T := by
  have hw := wx_lt (R := R) (L0 := L0) (X := X)
  have hQ0 := Qx_ge (R := R) (L0 := L0) (X := X)
  have hge := fun h => wx_ge (R := R) (L0 := L0) (X := X) hX h hR
  generalize wxN R L0 X = w at *
  generalize Qx R L0 X = Q at *
  have hQ : Q + R = T := by
    have a1 : (w + 1) * 10 ^ Q ≤ 10 ^ R * 10 ^ Q := Nat.mul_le_mul_right _ hw
    rw [← Nat.pow_add] at a1
    have a2 : T ≤ R + Q := Nat.not_lt.mp fun z => by
      have : 10 ^ (R + Q) < 10 ^ T := pow10_lt z
      omega
    rcases Nat.lt_or_ge L0 Q with z | z
    · have b1 : 10 ^ (R - 1) * 10 ^ Q ≤ w * 10 ^ Q := Nat.mul_le_mul_right _ (hge z)
      rw [← Nat.pow_add] at b1
      have b2 : R - 1 + Q < T := Nat.not_le.mp fun z => by
        have : 10 ^ T ≤ 10 ^ (R - 1 + Q) := pow10_le z
        omega
      omega
    · omega
  have e : 10 ^ T = 10 ^ R * 10 ^ Q := by rw [← hQ, Nat.add_comm, Nat.pow_add]
  rw [e] at h2
  have h3 := Nat.le_of_mul_le_mul_right h2 (ten_pos Q)
  have hw1 : w + 1 = 10 ^ R := by omega
  refine ⟨?_, by rw [hw1, e]⟩
  unfold gxN
  rw [← hw1, show T - R = Q by omega]
  rfl
/-- the next one away from nought -/
def fxN (R L0 T X I : Nat) : Nat := if (wxN R L0 X + 1) * 10 ^ Qx R L0 X < 10 ^ T then (wxN R L0 X + 1) * 10 ^ Qx R L0 X else I
/-- the next one towards nought -/
def nxN (R L0 T X : Nat) : Nat := if 10 ^ T ≤ X then gxN R T else if X % 10 ^ Qx R L0 X ≠ 0 then wxN R L0 X * 10 ^ Qx R L0 X
  else if wxN R L0 X = 10 ^ (R - 1) ∧ L0 < Qx R L0 X then (10 ^ R - 1) * 10 ^ (Qx R L0 X - 1) else (wxN R L0 X - 1) * 10 ^ Qx R L0 X
/-- clipped at the bound -/
def cxN (R T I : Nat) (te : Bool) (v : Nat) : Nat := if v < 10 ^ T then v else if te = true then I else gxN R T
/-- what it comes to, up or not -/
def vxN (R L0 X : Nat) (up : Bool) : Nat := (if X % 10 ^ Qx R L0 X ≠ 0 ∧ up = true then wxN R L0 X + 1 else wxN R L0 X) * 10 ^ Qx R L0 X
theorem x_eq : wxN R L0 X * 10 ^ Qx R L0 X + X % 10 ^ Qx R L0 X = X := by
  have := Nat.div_add_mod X (10 ^ Qx R L0 X)
  rw [Nat.mul_comm] at this
  exact this
theorem fx_gt {I : Nat} (hI : X < I) : X < fxN R L0 T X I := by
  unfold fxN
  split
  · exact wx_succ
  · exact hI
theorem nx_lt (hX : 1 ≤ X) (hR : 1 ≤ R) (hT : R ≤ T) : nxN R L0 T X < X := by
  have hs := x_eq (R := R) (L0 := L0) (X := X)
  have hu := ten_pos (Qx R L0 X)
  unfold nxN
  split
  · have := gx_lt hT
    omega
  split
  · omega
  rename_i h1 h2
  have h0 : X % 10 ^ Qx R L0 X = 0 := by omega
  have hw : 1 ≤ wxN R L0 X := by
    rcases Nat.eq_zero_or_pos (wxN R L0 X) with z | z
    · rw [z, Nat.zero_mul] at hs; omega
    · exact z
  split
  · rename_i h3
    have e : wxN R L0 X * 10 ^ Qx R L0 X = 10 ^ R * 10 ^ (Qx R L0 X - 1) := by
      rw [h3.1, ← Nat.pow_add, ← Nat.pow_add]; congr 1; omega
    have h4 : (10 ^ R - 1) * 10 ^ (Qx R L0 X - 1) < 10 ^ R * 10 ^ (Qx R L0 X - 1) := Nat.mul_lt_mul_of_pos_right (by have := ten_pos R; omega) (ten_pos _)
    omega
  · have h4 : (wxN R L0 X - 1) * 10 ^ Qx R L0 X < wxN R L0 X * 10 ^ Qx R L0 X := Nat.mul_lt_mul_of_pos_right (by omega) hu
    omega
theorem vx_cases (up : Bool) : (vxN R L0 X up = wxN R L0 X * 10 ^ Qx R L0 X ∧ (X % 10 ^ Qx R L0 X = 0 ∨ up = false)) ∨ (vxN R L0 X up = (wxN R L0 X + 1) * 10 ^ Qx R L0 X ∧ X % 10 ^ Qx R L0 X ≠ 0 ∧ up = true) := by
  unfold vxN
  split
  · rename_i h
    exact .inr ⟨rfl, h⟩
  · rename_i h
    refine .inl ⟨rfl, ?_⟩
    by_cases z : X % 10 ^ Qx R L0 X = 0
    · exact .inl z
    · right
      cases up
      · rfl
      · exact absurd ⟨z, rfl⟩ h
theorem up_is {I : Nat} {up te : Bool} (hX : 1 ≤ X) (hR : 1 ≤ R) (hT : L0 + R ≤ T) (h : X < cxN R T I te (vxN R L0 X up)) : cxN R T I te (vxN R L0 X up) = fxN R L0 T X I := by
  have hm := wx_mul (R := R) (L0 := L0) (X := X)
  unfold cxN at h ⊢
  unfold fxN
  rcases vx_cases (R := R) (L0 := L0) (X := X) up with ⟨e, h1⟩ | ⟨e, h1, h2⟩
  · rw [e] at h ⊢
    split at h
    · omega
    · rename_i h3
      have h5 : wxN R L0 X * 10 ^ Qx R L0 X ≤ (wxN R L0 X + 1) * 10 ^ Qx R L0 X := Nat.mul_le_mul_right _ (Nat.le_succ _)
      rw [if_neg h3, if_neg (by omega : ¬ (wxN R L0 X + 1) * 10 ^ Qx R L0 X < 10 ^ T)]
      split at h
      · rename_i h4; rw [if_pos h4]
      · have := gx_lt (R := R) (T := T) (by omega)
        omega
  · rw [e] at h ⊢
    split at h
    · rename_i h3
      rw [if_pos h3, if_pos h3]
    · rename_i h3
      rw [if_neg h3]
      split at h
      · rename_i h4
        rw [if_pos h4]
        rw [if_neg h3]
      · have hg := gx_lt (R := R) (T := T) (by omega)
        have := at_top hX hR hT (by omega) (by omega)
        omega
theorem down_is {I : Nat} {up te : Bool} (hX : 1 ≤ X) (hR : 1 ≤ R) (hT : L0 + R ≤ T) (hI : X < I) (h : cxN R T I te (vxN R L0 X up) < X) : cxN R T I te (vxN R L0 X up) = nxN R L0 T X := by
  have hm := wx_mul (R := R) (L0 := L0) (X := X)
  have hs := x_eq (R := R) (L0 := L0) (X := X)
  have hsu := wx_succ (R := R) (L0 := L0) (X := X)
  unfold cxN at h ⊢
  unfold nxN
  rcases vx_cases (R := R) (L0 := L0) (X := X) up with ⟨e, h1⟩ | ⟨e, h1, h2⟩
  · rw [e] at h ⊢
    split at h
    · rename_i h3
      have hx : X < 10 ^ T := Nat.not_le.mp fun z => by
        have := at_top hX hR hT h3 (by omega)
        omega
      rw [if_pos h3, if_neg (by omega : ¬ 10 ^ T ≤ X), if_pos (by omega : X % 10 ^ Qx R L0 X ≠ 0)]
    · rename_i h3
      rw [if_neg h3]
      split at h
      · omega
      · rename_i h4
        rw [if_neg h4, if_pos (by omega : 10 ^ T ≤ X)]
  · rw [e] at h ⊢
    split at h
    · omega
    · rename_i h3
      rw [if_neg h3]
      split at h
      · omega
      · rename_i h4
        rw [if_neg h4]
        by_cases z : 10 ^ T ≤ X
        · rw [if_pos z]
        · rw [if_neg z, if_pos h1]
          exact (at_top hX hR hT (by omega) (by omega)).1.symm
/-- of a greater one no less is told -/
theorem vx_mono {X' : Nat} {up up' : Bool} (hX : 1 ≤ X) (h : X ≤ X') (hR : 1 ≤ R) (hup : Qx R L0 X = Qx R L0 X' → wxN R L0 X = wxN R L0 X' → X % 10 ^ Qx R L0 X ≠ 0 → up = true → up' = true) : vxN R L0 X up ≤ vxN R L0 X' up' := by
  have a1 : vxN R L0 X up ≤ (wxN R L0 X + 1) * 10 ^ Qx R L0 X := by
    rcases vx_cases (R := R) (L0 := L0) (X := X) up with ⟨e, _⟩ | ⟨e, _⟩ <;> rw [e]
    · exact Nat.mul_le_mul_right _ (Nat.le_succ _)
    · exact Nat.le_refl _
  have a2 : wxN R L0 X' * 10 ^ Qx R L0 X' ≤ vxN R L0 X' up' := by
    rcases vx_cases (R := R) (L0 := L0) (X := X') up' with ⟨e, _⟩ | ⟨e, _⟩ <;> rw [e]
    · exact Nat.le_refl _
    · exact Nat.mul_le_mul_right _ (Nat.le_succ _)
  have hQ := Qx_mono (R := R) (L0 := L0) h
  rcases Nat.lt_or_ge (Qx R L0 X) (Qx R L0 X') with z | z
  · have b1 : (wxN R L0 X + 1) * 10 ^ Qx R L0 X ≤ 10 ^ R * 10 ^ Qx R L0 X := Nat.mul_le_mul_right _ wx_lt
    have b2 : 10 ^ (R - 1) * 10 ^ Qx R L0 X' ≤ wxN R L0 X' * 10 ^ Qx R L0 X' := Nat.mul_le_mul_right _ (wx_ge (by omega) (Nat.lt_of_le_of_lt Qx_ge z) hR)
    rw [← Nat.pow_add] at b1 b2
    have b3 : 10 ^ (R + Qx R L0 X) ≤ 10 ^ (R - 1 + Qx R L0 X') := pow10_le (by omega)
    omega
  · have e : Qx R L0 X = Qx R L0 X' := by omega
    have hw : wxN R L0 X ≤ wxN R L0 X' := by
      unfold wxN
      rw [e]
      exact Nat.div_le_div_right h
    rcases Nat.lt_or_ge (wxN R L0 X) (wxN R L0 X') with z2 | z2
    · have b1 : (wxN R L0 X + 1) * 10 ^ Qx R L0 X ≤ wxN R L0 X' * 10 ^ Qx R L0 X' := by rw [e]; exact Nat.mul_le_mul_right _ z2
      omega
    · have e2 : wxN R L0 X = wxN R L0 X' := by omega
      have hm : X % 10 ^ Qx R L0 X ≤ X' % 10 ^ Qx R L0 X' := by
        have s1 := x_eq (R := R) (L0 := L0) (X := X)
        have s2 := x_eq (R := R) (L0 := L0) (X := X')
        rw [← e, ← e2] at s2
        rw [← e]
        omega
      rcases vx_cases (R := R) (L0 := L0) (X := X) up with ⟨h1, _⟩ | ⟨h1, h2, h3⟩
      · rw [h1, e, e2]; exact a2
      · unfold vxN
        rw [if_pos ⟨h2, h3⟩, if_pos ⟨by omega, hup e e2 h2 h3⟩, e, e2]
        exact Nat.le_refl _
theorem cx_mono {I W Q : Nat} {te : Bool} {v' : Nat} (hR : 1 ≤ R) (hT : R ≤ T) (hI : 10 ^ T ≤ I) (hW : W ≤ 10 ^ R) (h : W * 10 ^ Q ≤ v') : cxN R T I te (W * 10 ^ Q) ≤ cxN R T I te v' := by
  unfold cxN
  by_cases h1 : v' < 10 ^ T
  · rw [if_pos h1, if_pos (by omega)]; exact h
  · rw [if_neg h1]
    by_cases h2 : W * 10 ^ Q < 10 ^ T
    · rw [if_pos h2]
      split
      · omega
      · exact le_gx hR hT hW h2
    · rw [if_neg h2]; exact Nat.le_refl _
/-! up and down again -/
theorem back_up {I : Nat} (hX : 1 ≤ X) (hR : 1 ≤ R) (hT : L0 + R ≤ T) (h0 : X % 10 ^ Qx R L0 X = 0) (h : (wxN R L0 X + 1) * 10 ^ Qx R L0 X < 10 ^ T) : nxN R L0 T ((wxN R L0 X + 1) * 10 ^ Qx R L0 X) = X := by
  have hs := x_eq (R := R) (L0 := L0) (X := X)
  have hw := wx_lt (R := R) (L0 := L0) (X := X)
  have hQ0 := Qx_ge (R := R) (L0 := L0) (X := X)
  have hge := fun h => wx_ge (R := R) (L0 := L0) (X := X) hX h hR
  rw [h0, Nat.add_zero] at hs
  generalize wxN R L0 X = w at *
  generalize Qx R L0 X = Q at *
  have hT' : ¬ 10 ^ T ≤ (w + 1) * 10 ^ Q := by omega
  by_cases z : w + 1 < 10 ^ R
  · have eQ : Qx R L0 ((w + 1) * 10 ^ Q) = Q := by
      have b1 : (w + 1) * 10 ^ Q < 10 ^ R * 10 ^ Q := Nat.mul_lt_mul_of_pos_right z (ten_pos Q)
      rw [← Nat.pow_add, Nat.add_comm R Q] at b1
      rcases Nat.lt_or_ge L0 Q with z2 | z2
      · refine Qx_hi hR z2 ?_ b1
        have b2 : 10 ^ (R - 1) * 10 ^ Q ≤ (w + 1) * 10 ^ Q := Nat.mul_le_mul_right _ (Nat.le_succ_of_le (hge z2))
        rw [← Nat.pow_add] at b2
        rw [show Q + R - 1 = R - 1 + Q by omega]
        exact b2
      · have : Q = L0 := by omega
        rw [this] at b1 ⊢
        exact Qx_lo hR b1
    have eW : wxN R L0 ((w + 1) * 10 ^ Q) = w + 1 := by
      unfold wxN
      rw [eQ, Nat.mul_div_cancel _ (ten_pos Q)]
    unfold nxN
    rw [if_neg hT', eQ, if_neg (by rw [Nat.mul_mod_left]; omega), eW, if_neg (fun q => by have := hge q.2; omega)]
    exact hs
  · have hw1 : w + 1 = 10 ^ R := by omega
    have e1 : (w + 1) * 10 ^ Q = 10 ^ (R - 1) * 10 ^ (Q + 1) := by rw [hw1, ← Nat.pow_add, ← Nat.pow_add]; congr 1; omega
    have eQ : Qx R L0 ((w + 1) * 10 ^ Q) = Q + 1 := by
      rw [e1, ← Nat.pow_add]
      exact Qx_hi hR (by omega) (pow10_le (by omega)) (pow10_lt (by omega))
    have eW : wxN R L0 ((w + 1) * 10 ^ Q) = 10 ^ (R - 1) := by
      unfold wxN
      rw [eQ, e1, Nat.mul_div_cancel _ (ten_pos _)]
    unfold nxN
    rw [if_neg hT', eQ, if_neg (by rw [e1, Nat.mul_mod_left]; omega), eW, if_pos ⟨rfl, by omega⟩, show Q + 1 - 1 = Q by omega, ← hw1]
    exact hs
theorem back_down {I : Nat} (hX : 1 ≤ X) (hR : 1 ≤ R) (hT : L0 + R ≤ T) (h0 : X % 10 ^ Qx R L0 X = 0) (h : X < 10 ^ T) : (nxN R L0 T X = 0 ∧ X = 10 ^ L0) ∨ (1 ≤ nxN R L0 T X ∧ fxN R L0 T (nxN R L0 T X) I = X) := by
  have hs := x_eq (R := R) (L0 := L0) (X := X)
  have hw := wx_lt (R := R) (L0 := L0) (X := X)
  have hQ0 := Qx_ge (R := R) (L0 := L0) (X := X)
  have hge := fun h => wx_ge (R := R) (L0 := L0) (X := X) hX h hR
  have hR10 := ten_pos R
  rw [h0, Nat.add_zero] at hs
  have eN : nxN R L0 T X = if wxN R L0 X = 10 ^ (R - 1) ∧ L0 < Qx R L0 X then (10 ^ R - 1) * 10 ^ (Qx R L0 X - 1) else (wxN R L0 X - 1) * 10 ^ Qx R L0 X := by
    unfold nxN
    rw [if_neg (by omega : ¬ 10 ^ T ≤ X), if_neg (by omega)]
  rw [eN]
  clear eN h0
  generalize wxN R L0 X = w at *
  generalize Qx R L0 X = Q at *
  have hw1 : 1 ≤ w := by
    rcases Nat.eq_zero_or_pos w with z | z
    · rw [z, Nat.zero_mul] at hs; omega
    · exact z
  by_cases c : w = 10 ^ (R - 1) ∧ L0 < Q
  · rw [if_pos c]
    obtain ⟨c1, c2⟩ := c
    right
    have hp : 10 ^ (R - 1) ≤ 10 ^ R - 1 := by
      have : 10 ^ R = 10 * 10 ^ (R - 1) := by rw [show R = (R - 1) + 1 by omega, Nat.pow_succ, Nat.mul_comm]; rfl
      have := ten_pos (R - 1)
      omega
    have b1 : (10 ^ R - 1) * 10 ^ (Q - 1) < 10 ^ R * 10 ^ (Q - 1) := Nat.mul_lt_mul_of_pos_right (by omega) (ten_pos _)
    have b2 : 10 ^ (R - 1) * 10 ^ (Q - 1) ≤ (10 ^ R - 1) * 10 ^ (Q - 1) := Nat.mul_le_mul_right _ hp
    rw [← Nat.pow_add] at b1 b2
    have eQ : Qx R L0 ((10 ^ R - 1) * 10 ^ (Q - 1)) = Q - 1 := by
      rcases Nat.lt_or_ge L0 (Q - 1) with z2 | z2
      · refine Qx_hi hR z2 ?_ ?_
        · rw [show Q - 1 + R - 1 = R - 1 + (Q - 1) by omega]; exact b2
        · rw [Nat.add_comm]; exact b1
      · have : L0 = Q - 1 := by omega
        rw [this]
        exact Qx_lo hR (by rw [Nat.add_comm]; exact b1)
    have eW : wxN R L0 ((10 ^ R - 1) * 10 ^ (Q - 1)) = 10 ^ R - 1 := by
      unfold wxN
      rw [eQ, Nat.mul_div_cancel _ (ten_pos _)]
    refine ⟨Nat.le_trans (ten_pos _) b2, ?_⟩
    unfold fxN
    rw [eQ, eW, show 10 ^ R - 1 + 1 = 10 ^ R by omega]
    have e : 10 ^ R * 10 ^ (Q - 1) = X := by
      rw [← hs, c1, ← Nat.pow_add, ← Nat.pow_add]; congr 1; omega
    rw [e, if_pos h]
  · rw [if_neg c]
    by_cases w1 : w = 1
    · left
      have : Q = L0 := by
        rcases Nat.lt_or_ge L0 Q with z | z
        · have := hge z
          have hr1 : R - 1 = 0 := by
            rcases Nat.eq_zero_or_pos (R - 1) with q | q
            · exact q
            · have : 10 ^ 1 ≤ 10 ^ (R - 1) := pow10_le q
              omega
          exact absurd ⟨by rw [hr1, w1], z⟩ c
        · omega
      rw [w1] at hs ⊢
      exact ⟨Nat.zero_mul _, by rw [← hs, this, Nat.one_mul]⟩
    · right
      have hpos : 1 ≤ (w - 1) * 10 ^ Q := Nat.mul_pos (by omega) (ten_pos _)
      have eQ : Qx R L0 ((w - 1) * 10 ^ Q) = Q := by
        have b1 : (w - 1) * 10 ^ Q < 10 ^ R * 10 ^ Q := Nat.mul_lt_mul_of_pos_right (by omega) (ten_pos Q)
        rw [← Nat.pow_add, Nat.add_comm R Q] at b1
        rcases Nat.lt_or_ge L0 Q with z2 | z2
        · refine Qx_hi hR z2 ?_ b1
          have := hge z2
          have b2 : 10 ^ (R - 1) * 10 ^ Q ≤ (w - 1) * 10 ^ Q := Nat.mul_le_mul_right _ (by
            have : w ≠ 10 ^ (R - 1) := fun q => c ⟨q, z2⟩
            omega)
          rw [← Nat.pow_add] at b2
          rw [show Q + R - 1 = R - 1 + Q by omega]
          exact b2
        · have : Q = L0 := by omega
          rw [this] at b1 ⊢
          exact Qx_lo hR b1
      have eW : wxN R L0 ((w - 1) * 10 ^ Q) = w - 1 := by
        unfold wxN
        rw [eQ, Nat.mul_div_cancel _ (ten_pos Q)]
      refine ⟨hpos, ?_⟩
      unfold fxN
      rw [eQ, eW, show w - 1 + 1 = w by omega, hs, if_pos h]
theorem nx_min (hR : 1 ≤ R) (hT : L0 + R ≤ T) : nxN R L0 T (10 ^ L0) = 0 := by
  have eQ : Qx R L0 (10 ^ L0) = L0 := Qx_lo hR (pow10_lt (by omega))
  have eW : wxN R L0 (10 ^ L0) = 1 := by
    unfold wxN
    rw [eQ, Nat.div_self (ten_pos _)]
  have h1 : ¬ 10 ^ T ≤ 10 ^ L0 := by have q : 10 ^ L0 < 10 ^ T := pow10_lt (by omega); omega
  unfold nxN
  rw [if_neg h1, eQ, eW, Nat.mod_self, if_neg (fun q => q rfl), if_neg (fun q => Nat.lt_irrefl _ q.2), Nat.sub_self, Nat.zero_mul]
end

/-- the next one, of any number -/
def nexV (r l m : Int) (n : Nu) (s : Int) : Nu := if n.k = "none" then noneN else nexN r l m n s
theorem Nu.V.inn {n : Nu} (h : n.V) (hk : ¬ n.k = "none") : n.In := ⟨h.sm.s, by
  rcases h.kd with z | z | z
  · exact .inl z
  · exact .inr z
  · exact absurd (congrArg Nu.k z) hk⟩
theorem In.fit {n : Nu} (h : n.In) : n.Fit := by
  obtain ⟨k, s, f, p⟩ := n
  rcases h.kd with z | z
  · obtain ⟨rfl, o⟩ := z
    exact fit_p o
  · obtain ⟨rfl, rfl, rfl⟩ := z
    exact fit_0 h.s (.inr (.inl rfl))
theorem fit_nex {r l m : Int} {n : Nu} (hn : n.V) (hr : 1 ≤ r ∧ r ≤ 24) (hl : -60 ≤ l ∧ l ≤ 0) (hm : 0 ≤ m ∧ m ≤ 60) {s : Int} (hs : 0 ≤ s ∧ s ≤ 1) : (nexV r l m n s).Fit := by
  unfold nexV
  split
  · exact fit_0 (by decide) (.inr (.inr rfl))
  · rename_i h
    exact In.fit (nex_in (hn.inn h) hr hl hm hs)
/-! ### the law's own road -/
def shoN (r l : Int) (s : Int) (x : Nat) : Nu := ⟨"plain", s, (x / 10 ^ (max 0 ((nd x : Nat) - r)).toNat : Nat), l - r + 1 + max 0 ((nd x : Nat) - r)⟩
def mosN (r l m : Int) : Nat := (10 ^ r.toNat - 1) * 10 ^ (m - l).toNat
def griN (r l : Int) (n : Nu) : Nat := sideH n.f.toNat (n.p - (l - r + 1)) / sideL 1 (n.p - (l - r + 1))
def griB (r l : Int) (n : Nu) : Bool := decide (0 < sideH n.f.toNat (n.p - (l - r + 1)) % sideL 1 (n.p - (l - r + 1)))
def stpN (r : Int) (x : Nat) : Nat := 10 ^ (max 0 ((nd x : Nat) - r)).toNat
def farL (r l m : Int) (s : Int) (x : Nat) : Nu := if mosN r l m < (x + stpN r x - 1) / stpN r x * stpN r x then endN s else shoN r l s ((x + stpN r x - 1) / stpN r x * stpN r x)
def neaG (r l m : Int) (g : Nat) (more : Bool) : Nat := min (g - (if more = true then 0 else 1)) (mosN r l m)
def neaL (r l m : Int) (s : Int) (v : Nat) : Nu := shoN r l s (v / stpN r v * stpN r v)
theorem mosN_lt {r l m : Int} (hr : 1 ≤ r ∧ r ≤ 24) (hl : -60 ≤ l ∧ l ≤ 0) (hm : 0 ≤ m ∧ m ≤ 60) : mosN r l m < 10 ^ 570 := by
  have h1 := ten_pos r.toNat
  unfold mosN
  have h2 : (10 ^ r.toNat - 1) * 10 ^ (m - l).toNat ≤ 10 ^ 24 * 10 ^ 120 := Nat.mul_le_mul (Nat.le_trans (Nat.sub_le _ _) (pow10_le (by omega))) (pow10_le (by omega))
  rw [← Nat.pow_add] at h2
  exact Nat.lt_of_le_of_lt h2 (pow10_lt (by decide))

/-! ### worths by natural numbers -/
def Bx (p : Int) : Nat := (p + 300).toNat
def Wt (f p : Int) : Nat := f.toNat * 10 ^ Bx p
def Ix : Nat := 10 ^ 1000
theorem Wt_lt {s f p : Int} (o : okP s f p) : Wt f p < Ix := by
  have h1 := o.2.1
  have h2 := o.2.2
  unfold Wt Ix
  have : f.toNat * 10 ^ Bx p < 10 ^ 60 * 10 ^ 500 := Nat.mul_lt_mul_of_lt_of_le (by omega) (pow10_le (by unfold Bx; omega)) (ten_pos _)
  rw [← Nat.pow_add] at this
  exact Nat.lt_trans this (pow10_lt (by decide))
theorem Wt_pos {s f p : Int} (o : okP s f p) (h : f ≠ 0) : 1 ≤ Wt f p := Nat.mul_pos (by have := o.2.1; omega) (ten_pos _)
theorem Wt_zero {f p : Int} (h : f = 0) : Wt f p = 0 := by rw [h]; exact Nat.zero_mul _
theorem side_B (t : Nat) {s q : Int} (hs : -300 ≤ s) (hq : -300 ≤ q) : ∃ k, 0 < k ∧ t * 10 ^ Bx s = sideH t (s - q) * k ∧ 10 ^ Bx q = sideL 1 (s - q) * k := by
  unfold sideH sideL Bx
  rcases Int.le_total q s with z | z
  · refine ⟨10 ^ (q + 300).toNat, ten_pos _, ?_, ?_⟩
    · rw [Nat.mul_assoc, ← Nat.pow_add]; congr 2; omega
    · rw [show (-(s - q)).toNat = 0 by omega, Nat.pow_zero, Nat.mul_one, Nat.one_mul]
  · refine ⟨10 ^ (s + 300).toNat, ten_pos _, ?_, ?_⟩
    · rw [show (s - q).toNat = 0 by omega, Nat.pow_zero, Nat.mul_one]
    · rw [Nat.one_mul, ← Nat.pow_add]; congr 1; omega
theorem who_B {n : Nu} (hs : -300 ≤ n.p) {q : Int} (hq : -300 ≤ q) : whoX n q = Wt n.f n.p / 10 ^ Bx q ∧ prtX n q = prt (Wt n.f n.p % 10 ^ Bx q) (10 ^ Bx q) := by
  obtain ⟨k, hk, e1, e2⟩ := side_B n.f.toNat hs hq
  unfold whoX prtX Wt
  rw [e1, e2, Nat.mul_div_mul_right _ _ hk, Nat.mul_mod_mul_right, prt_mul hk]
  exact ⟨rfl, rfl⟩
theorem nd_Wt {s f p : Int} (o : okP s f p) (h : f ≠ 0) : nd (Wt f p) = nd f.toNat + Bx p := by
  have hf := o.2.1
  have h1 := nd_le (n := f.toNat) (by omega)
  have h2 := nd_lt f.toNat
  have h3 := nd_pos f.toNat
  unfold Wt
  refine nd_of (by omega) ?_ ?_
  · rw [show nd f.toNat + Bx p - 1 = (nd f.toNat - 1) + Bx p by omega, Nat.pow_add]
    exact Nat.mul_le_mul_right _ h1
  · rw [Nat.pow_add]
    exact Nat.mul_lt_mul_of_pos_right h2 (ten_pos _)
def Rx (r : Int) : Nat := r.toNat
def Lx (l r : Int) : Nat := (l - r + 301).toNat
def Tx' (m : Int) : Nat := (m + 301).toNat
theorem bnds {r l m : Int} (hr : 1 ≤ r ∧ r ≤ 24) (hl : -60 ≤ l ∧ l ≤ 0) (hm : 0 ≤ m ∧ m ≤ 60) : 1 ≤ Rx r ∧ Lx l r + Rx r ≤ Tx' m ∧ Rx r ≤ Tx' m ∧ 10 ^ Tx' m ≤ Ix := by
  refine ⟨by unfold Rx; omega, by unfold Rx Lx Tx'; omega, by unfold Rx Tx'; omega, pow10_le (by unfold Tx'; omega)⟩
theorem lpl_Q {r l s f p : Int} (hr : 1 ≤ r ∧ r ≤ 24) (hl : -60 ≤ l ∧ l ≤ 0) (o : okP s f p) (h : f ≠ 0) : Bx (lplN r l (plN s f p)) = Qx (Rx r) (Lx l r) (Wt f p) := by
  have hp := o.2.2
  have h3 := nd_pos f.toNat
  unfold Qx
  rw [nd_Wt o h]
  unfold lplN leadN Rx Lx Bx
  dsimp only
  omega
theorem who_w {r l s f p : Int} (hr : 1 ≤ r ∧ r ≤ 24) (hl : -60 ≤ l ∧ l ≤ 0) (o : okP s f p) (h : f ≠ 0) : whoX (plN s f p) (lplN r l (plN s f p)) = wxN (Rx r) (Lx l r) (Wt f p) ∧ prtX (plN s f p) (lplN r l (plN s f p)) = prt (Wt f p % 10 ^ Qx (Rx r) (Lx l r) (Wt f p)) (10 ^ Qx (Rx r) (Lx l r) (Wt f p)) := by
  have hq := lpl_rg (n := plN s f p) o hr hl
  have hp := o.2.2
  have := who_B (n := plN s f p) (q := lplN r l (plN s f p)) (by show -300 ≤ p; omega) (by omega)
  rw [lpl_Q hr hl o h] at this
  exact this
theorem B_succ {q : Int} (h : -300 ≤ q) : 10 ^ Bx (q + 1) = 10 * 10 ^ Bx q := by
  unfold Bx
  rw [show (q + 1 + 300).toNat = (q + 300).toNat + 1 by omega, Nat.pow_succ, Nat.mul_comm]
theorem car_val {r : Int} {w : Nat} {q : Int} (hr : 1 ≤ r ∧ r ≤ 24) (hw : w ≤ 10 ^ r.toNat) (hw0 : 1 ≤ w) (hq : -300 ≤ q) : (carN r w q).1 * 10 ^ Bx (carN r w q).2 = w * 10 ^ Bx q ∧ 1 ≤ (carN r w q).1 ∧ -300 ≤ (carN r w q).2 := by
  unfold carN
  split
  · rename_i h
    have e : w = 10 ^ r.toNat := by
      rcases Nat.lt_or_ge w (10 ^ r.toNat) with z | z
      · have := nd_le_of (c := r.toNat) (by omega) z
        omega
      · omega
    have e2 : 10 ^ r.toNat = 10 * 10 ^ (r.toNat - 1) := by rw [show r.toNat = (r.toNat - 1) + 1 by omega, Nat.pow_succ, Nat.mul_comm]; rfl
    have h3 := ten_pos (r.toNat - 1)
    refine ⟨?_, by show 1 ≤ w / 10; omega, by show -300 ≤ q + 1; omega⟩
    show w / 10 * 10 ^ Bx (q + 1) = w * 10 ^ Bx q
    rw [B_succ hq, show w / 10 = 10 ^ (r.toNat - 1) by omega, e, e2, Nat.mul_left_comm, Nat.mul_assoc]
  · exact ⟨rfl, hw0, hq⟩
theorem cap_iff {m : Int} {w : Nat} {q : Int} (hm : 0 ≤ m ∧ m ≤ 60) (hw : 1 ≤ w) (hq : -300 ≤ q) : (m < q + nd w - 1) ↔ 10 ^ Tx' m ≤ w * 10 ^ Bx q := by
  have := nd_pos w
  rw [big_iff hw]
  unfold Tx' Bx
  omega
theorem lead_iff {s f p m : Int} (hm : 0 ≤ m ∧ m ≤ 60) (o : okP s f p) (h : f ≠ 0) : (m < leadN (plN s f p)) ↔ 10 ^ Tx' m ≤ Wt f p := by
  have hf := o.2.1
  have hp := o.2.2
  have := cap_iff (w := f.toNat) (q := p) hm (by omega) (by omega)
  unfold leadN
  exact this
/-! ### the grid -/
theorem Lx_Bx {r l : Int} : Bx (l - r + 1) = Lx l r := by unfold Bx Lx; congr 1; omega
theorem gri_B {r l : Int} {n : Nu} (hr : 1 ≤ r ∧ r ≤ 24) (hl : -60 ≤ l ∧ l ≤ 0) (o : okP n.s n.f n.p) : griN r l n = Wt n.f n.p / 10 ^ Lx l r ∧ griB r l n = decide (Wt n.f n.p % 10 ^ Lx l r ≠ 0) := by
  have hp := o.2.2
  obtain ⟨k, hk, e1, e2⟩ := side_B n.f.toNat (s := n.p) (q := l - r + 1) (by omega) (by omega)
  rw [Lx_Bx] at e2
  unfold griN griB Wt
  rw [e1, e2, Nat.mul_div_mul_right _ _ hk, Nat.mul_mod_mul_right]
  refine ⟨rfl, decide_eq_decide.mpr ?_⟩
  generalize sideH n.f.toNat (n.p - (l - r + 1)) % sideL 1 (n.p - (l - r + 1)) = z
  rcases Nat.eq_zero_or_pos z with q | q
  · rw [q, Nat.zero_mul]; omega
  · have := Nat.mul_pos q hk
    omega
theorem nd_zero : nd 0 = 1 := rfl
/-- the places behind what there is room for -/
def kx (r : Int) (x : Nat) : Nat := nd x - r.toNat
theorem kx_eq {r : Int} (hr : 1 ≤ r) (x : Nat) : (max 0 ((nd x : Nat) - r)).toNat = kx r x ∧ max 0 ((nd x : Nat) - r) = (kx r x : Int) := by unfold kx; omega
theorem kx_D {r : Int} (hr : 1 ≤ r) {w k v : Nat} (h1 : w * 10 ^ k ≤ v) (h2 : v < (w + 1) * 10 ^ k) (hw : w < 10 ^ r.toNat) (hk : k = 0 ∨ 10 ^ (r.toNat - 1) ≤ w) : kx r v = k ∧ v / 10 ^ k * 10 ^ k = w * 10 ^ k := by
  have e : v / 10 ^ k = w := by
    refine Nat.le_antisymm (Nat.le_of_lt_succ ?_) ?_
    · rw [Nat.div_lt_iff_lt_mul (ten_pos _)]; exact h2
    · rw [Nat.le_div_iff_mul_le (ten_pos _)]; exact h1
  refine ⟨?_, by rw [e]⟩
  have b1 : (w + 1) * 10 ^ k ≤ 10 ^ r.toNat * 10 ^ k := Nat.mul_le_mul_right _ hw
  rw [← Nat.pow_add] at b1
  have b2 := nd_le_of (n := v) (c := r.toNat + k) (by omega) (by omega)
  unfold kx
  rcases Nat.eq_zero_or_pos k with z | z
  · omega
  · rcases hk with hk | hk
    · omega
    · have b3 : 10 ^ (r.toNat - 1) * 10 ^ k ≤ w * 10 ^ k := Nat.mul_le_mul_right _ hk
      rw [← Nat.pow_add] at b3
      have := nd_of (n := v) (c := r.toNat + k) (by omega) (by rw [show r.toNat + k - 1 = r.toNat - 1 + k by omega]; omega) (by omega)
      omega
theorem nd_pw {w k : Nat} (hw : 1 ≤ w) : nd (w * 10 ^ k) = nd w + k := by
  have := nd_pos w
  refine nd_of (by omega) ?_ ?_
  · rw [show nd w + k - 1 = nd w - 1 + k by omega, Nat.pow_add]
    exact Nat.mul_le_mul_right _ (nd_le hw)
  · rw [Nat.pow_add]
    exact Nat.mul_lt_mul_of_pos_right (nd_lt w) (ten_pos _)
theorem nd_tenK (k : Nat) : nd (10 ^ k) = k + 1 := nd_of (by omega) (by rw [show k + 1 - 1 = k by omega]; exact Nat.le_refl _) (pow10_lt (by omega))
theorem nd_lo {r : Int} (hr : 1 ≤ r) {w : Nat} (h : w < 10 ^ r.toNat) : nd w ≤ r.toNat := nd_le_of (by omega) h
/-- what is shown of so many at a place -/
theorem sho_mul {r l s : Int} (hr : 1 ≤ r ∧ r ≤ 24) {w k : Nat} (hw : w ≤ 10 ^ r.toNat) (hk : k = 0 ∨ 10 ^ (r.toNat - 1) ≤ w) : shoN r l s (w * 10 ^ k) = ⟨"plain", s, (carN r w (l - r + 1 + k)).1, (carN r w (l - r + 1 + k)).2⟩ := by
  have hR := hr.1
  unfold shoN
  rw [(kx_eq hR _).1, (kx_eq hR _).2]
  unfold carN
  rcases Nat.lt_or_ge w (10 ^ r.toNat) with z | z
  · have := nd_lo hR z
    rw [if_neg (by omega), (kx_D hR (Nat.le_refl _) (Nat.mul_lt_mul_of_pos_right (Nat.lt_succ_self w) (ten_pos k)) z hk).1, Nat.mul_div_cancel _ (ten_pos k)]
  · have e : w = 10 ^ r.toNat := by omega
    have en : nd w = r.toNat + 1 := by rw [e]; exact nd_tenK _
    have ek : kx r (w * 10 ^ k) = k + 1 := by
      unfold kx
      rw [nd_pw (by have := ten_pos r.toNat; omega), en]
      omega
    rw [if_pos (by omega), ek, Nat.pow_succ, Nat.mul_comm (10 ^ k) 10, ← Nat.div_div_eq_div_mul]
    rw [show w * 10 ^ k / 10 / 10 ^ k = w / 10 by rw [Nat.div_div_eq_div_mul, Nat.mul_comm 10, ← Nat.div_div_eq_div_mul, Nat.mul_div_cancel _ (ten_pos k)]]
    congr 1
    omega
theorem stp_eq {r : Int} (hr : 1 ≤ r) (x : Nat) : stpN r x = 10 ^ kx r x := by unfold stpN; rw [(kx_eq hr x).1]
/-- the next one away, on the grid -/
theorem up_grid {r : Int} (hr : 1 ≤ r) (g : Nat) : (g + 1 + stpN r (g + 1) - 1) / stpN r (g + 1) * stpN r (g + 1) = (g / 10 ^ kx r g + 1) * 10 ^ kx r g := by
  rw [stp_eq hr]
  have hm := nd_mono (Nat.le_succ g)
  rcases Nat.lt_or_ge (g + 1) (10 ^ nd g) with z | z
  · have : nd (g + 1) = nd g := Nat.le_antisymm (nd_le_of (nd_pos g) z) hm
    have e : kx r (g + 1) = kx r g := by unfold kx; rw [this]
    rw [e, show g + 1 + 10 ^ kx r g - 1 = g + 10 ^ kx r g from by have := ten_pos (kx r g); omega, Nat.add_div_right _ (ten_pos _)]
  · have e1 : g + 1 = 10 ^ nd g := by have := nd_lt g; omega
    have e2 : nd (g + 1) = nd g + 1 := by rw [e1]; exact nd_tenK _
    rcases Nat.lt_or_ge (nd g) r.toNat with y | y
    · have k1 : kx r (g + 1) = 0 := by unfold kx; omega
      have k2 : kx r g = 0 := by unfold kx; omega
      rw [k1, k2, Nat.pow_zero, Nat.div_one, Nat.div_one]
      omega
    · have k1 : kx r (g + 1) = kx r g + 1 := by unfold kx; omega
      have k3 : kx r g + 1 ≤ nd g := by unfold kx; omega
      have k4 : kx r g ≤ nd g := by omega
      have a1 : (g + 1 + 10 ^ kx r (g + 1) - 1) / 10 ^ kx r (g + 1) * 10 ^ kx r (g + 1) = 10 ^ nd g := by
        rw [k1]
        have p := ten_pos (kx r g + 1)
        have : g + 1 + 10 ^ (kx r g + 1) - 1 = (10 ^ (kx r g + 1) - 1) + 10 ^ (nd g - (kx r g + 1)) * 10 ^ (kx r g + 1) := by
          rw [← Nat.pow_add, show nd g - (kx r g + 1) + (kx r g + 1) = nd g by omega]
          omega
        rw [this, Nat.add_mul_div_right _ _ p, Nat.div_eq_of_lt (by omega), Nat.zero_add, ← Nat.pow_add]
        congr 1; omega
      have a2 : (g / 10 ^ kx r g + 1) * 10 ^ kx r g = 10 ^ nd g := by
        have p := ten_pos (kx r g)
        have : g + 10 ^ kx r g = (10 ^ kx r g - 1) + 10 ^ (nd g - kx r g) * 10 ^ kx r g := by
          rw [← Nat.pow_add, show nd g - kx r g + kx r g = nd g by omega]
          omega
        rw [← Nat.add_div_right _ p, this, Nat.add_mul_div_right _ _ p, Nat.div_eq_of_lt (by omega), Nat.zero_add, ← Nat.pow_add]
        congr 1; omega
      rw [a1, a2]
/-- the grid's road against the place of the last figure -/
theorem kx_Q {R L0 W : Nat} {r : Int} (hR : 1 ≤ r) (er : r.toNat = R) : Qx R L0 W = kx r (W / 10 ^ L0) + L0 ∧ wxN R L0 W = W / 10 ^ L0 / 10 ^ kx r (W / 10 ^ L0) := by
  have hq : Qx R L0 W = kx r (W / 10 ^ L0) + L0 := by
    unfold Qx kx
    rw [er]
    rcases Nat.lt_or_ge W (10 ^ L0) with z | z
    · rw [Nat.div_eq_of_lt z, nd_zero]
      rcases Nat.eq_zero_or_pos L0 with y | y
      · rw [y, Nat.pow_zero] at z
        have : nd W = 1 := by rw [show W = 0 by omega]; rfl
        omega
      · have := nd_le_of y z
        omega
    · have e : nd (W / 10 ^ L0) = nd W - L0 := by
        have hW : 1 ≤ W := Nat.le_trans (ten_pos _) z
        have hl : L0 < nd W := pow10_lt_inv (Nat.lt_of_le_of_lt z (nd_lt W))
        refine nd_of (by omega) ?_ ?_
        · rw [Nat.le_div_iff_mul_le (ten_pos _), ← Nat.pow_add, show nd W - L0 - 1 + L0 = nd W - 1 by omega]
          exact nd_le hW
        · rw [Nat.div_lt_iff_lt_mul (ten_pos _), ← Nat.pow_add, show nd W - L0 + L0 = nd W by omega]
          exact nd_lt W
      have hl : L0 < nd W := pow10_lt_inv (Nat.lt_of_le_of_lt z (nd_lt W))
      omega
  refine ⟨hq, ?_⟩
  unfold wxN
  rw [hq, Nat.div_div_eq_div_mul, ← Nat.pow_add, Nat.add_comm]
theorem mos_gx {r l m : Int} (hr : 1 ≤ r ∧ r ≤ 24) (hl : -60 ≤ l ∧ l ≤ 0) (hm : 0 ≤ m ∧ m ≤ 60) : mosN r l m * 10 ^ Lx l r = gxN (Rx r) (Tx' m) := by
  unfold mosN gxN Lx Rx Tx'
  rw [Nat.mul_assoc, ← Nat.pow_add]
  congr 2
  omega
theorem mos_lt {r l m : Int} (hr : 1 ≤ r ∧ r ≤ 24) (hl : -60 ≤ l ∧ l ≤ 0) (hm : 0 ≤ m ∧ m ≤ 60) {w k : Nat} (hw : w ≤ 10 ^ r.toNat) : mosN r l m < w * 10 ^ k ↔ 10 ^ Tx' m ≤ w * 10 ^ (k + Lx l r) := by
  obtain ⟨b1, b2, b3, _⟩ := bnds hr hl hm
  have e : w * 10 ^ (k + Lx l r) = w * 10 ^ k * 10 ^ Lx l r := by rw [Nat.pow_add, Nat.mul_assoc]
  have hg := gx_lt b3
  have p := ten_pos (Lx l r)
  rw [← Nat.mul_lt_mul_right p, mos_gx hr hl hm, ← e]
  constructor
  · intro h
    refine Nat.not_lt.mp fun z => ?_
    have := le_gx b1 b3 hw z
    omega
  · intro h
    omega

/-! ### the law's road meets the program's -/
theorem gre_law {r l m s : Int} (hr : 1 ≤ r ∧ r ≤ 24) (hl : -60 ≤ l ∧ l ≤ 0) (hm : 0 ≤ m ∧ m ≤ 60) : shoN r l s (mosN r l m) = greN r m s := by
  have h1 := ten_pos (r.toNat - 1)
  have e10 : 10 ^ r.toNat = 10 * 10 ^ (r.toNat - 1) := by rw [show r.toNat = (r.toNat - 1) + 1 by omega, Nat.pow_succ, Nat.mul_comm]; rfl
  have hn : nd (mosN r l m) = r.toNat + (m - l).toNat := by
    unfold mosN
    refine nd_of (by omega) ?_ ?_
    · rw [show r.toNat + (m - l).toNat - 1 = (r.toNat - 1) + (m - l).toNat by omega, Nat.pow_add]
      exact Nat.mul_le_mul_right _ (by omega)
    · rw [Nat.pow_add]
      exact Nat.mul_lt_mul_of_pos_right (by omega) (ten_pos _)
  unfold shoN greN
  rw [hn, show max 0 (((r.toNat + (m - l).toNat : Nat) : Int) - r) = m - l by omega]
  unfold mosN
  rw [Nat.mul_div_cancel _ (ten_pos _), show l - r + 1 + (m - l) = m - r + 1 by omega, Int.natCast_sub (by omega)]
  rfl
theorem gri_some {r l : Int} {n : Nu} (o : okP n.s n.f n.p) (h : n.f ≠ 0) : griB r l n = true ∨ 1 ≤ griN r l n := by
  have hf := o.2.1
  unfold griB griN
  have h1 : 0 < sideH n.f.toNat (n.p - (l - r + 1)) := Nat.mul_pos (by omega) (ten_pos _)
  have h2 : 0 < sideL 1 (n.p - (l - r + 1)) := sideL_pos (Nat.le_refl 1) _
  rw [decide_eq_true_eq]
  rcases Nat.eq_zero_or_pos (sideH n.f.toNat (n.p - (l - r + 1)) % sideL 1 (n.p - (l - r + 1))) with z | z
  · refine .inr ?_
    exact Nat.div_pos (Nat.le_of_dvd h1 (Nat.dvd_of_mod_eq_zero z)) h2
  · exact .inl z
theorem gri_lt {r l : Int} {n : Nu} (hr : 1 ≤ r ∧ r ≤ 24) (hl : -60 ≤ l ∧ l ≤ 0) (o : okP n.s n.f n.p) : griN r l n < 10 ^ 500 := by
  have hf := o.2.1
  have hp := o.2.2
  unfold griN
  refine Nat.lt_of_le_of_lt (Nat.div_le_self _ _) ?_
  unfold sideH
  have h2 : n.f.toNat * 10 ^ (n.p - (l - r + 1)).toNat ≤ 10 ^ 60 * 10 ^ 400 := Nat.mul_le_mul (by omega) (pow10_le (by omega))
  rw [← Nat.pow_add] at h2
  exact Nat.lt_of_le_of_lt h2 (pow10_lt (by decide))

theorem far_law {r l m s : Int} {n : Nu} (hr : 1 ≤ r ∧ r ≤ 24) (hl : -60 ≤ l ∧ l ≤ 0) (hm : 0 ≤ m ∧ m ≤ 60) (o : okP n.s n.f n.p) : farL r l m s (griN r l n + 1) = farN r l m n s := by
  have hR := hr.1
  obtain ⟨b1, b2, b3, _⟩ := bnds hr hl hm
  obtain ⟨eg, _⟩ := gri_B (l := l) hr hl o
  have R10 := ten_pos (r.toNat - 1)
  have e10 : 10 ^ r.toNat = 10 * 10 ^ (r.toNat - 1) := by rw [show r.toNat = (r.toNat - 1) + 1 by omega, Nat.pow_succ, Nat.mul_comm]; rfl
  unfold farL
  rw [up_grid hR]
  by_cases h : n.f = 0
  · have g0 : griN r l n = 0 := by rw [eg, Wt_zero h]; exact Nat.zero_div _
    have k0 : kx r 0 = 0 := by unfold kx; rw [nd_zero]; omega
    unfold farN
    rw [if_pos h, g0, k0, show (0 / 10 ^ 0 + 1) * 10 ^ 0 = 1 * 10 ^ 0 from rfl, sho_mul hr (by omega) (.inl rfl), if_neg (by
      have : 1 ≤ mosN r l m := Nat.mul_pos (by omega) (ten_pos _)
      omega)]
    unfold carN
    rw [if_neg (by rw [show nd 1 = 1 from rfl]; omega)]
    simp
  · obtain ⟨k, s0, f, p⟩ := n
    dsimp only at o h
    have hk : whoX ⟨k, s0, f, p⟩ (lplN r l ⟨k, s0, f, p⟩) = whoX (plN s0 f p) (lplN r l (plN s0 f p)) := rfl
    have hk2 : lplN r l ⟨k, s0, f, p⟩ = lplN r l (plN s0 f p) := rfl
    have hq := lpl_rg (n := plN s0 f p) o hr hl
    have hX := Wt_pos o h
    obtain ⟨e1, _⟩ := who_w hr hl o h
    have e2 := lpl_Q hr hl o h
    obtain ⟨q1, q2⟩ := kx_Q (R := Rx r) (L0 := Lx l r) (W := Wt f p) hR rfl
    have hge := fun z => wx_ge (R := Rx r) (L0 := Lx l r) (X := Wt f p) hX z b1
    have hlt := wx_lt (R := Rx r) (L0 := Lx l r) (X := Wt f p)
    dsimp only at eg
    rw [← eg] at q1 q2
    unfold farN
    rw [if_neg (show ¬ (⟨k, s0, f, p⟩ : Nu).f = 0 from h), hk, hk2, e1, ← q2]
    generalize kx r (griN r l ⟨k, s0, f, p⟩) = K at *
    generalize wxN (Rx r) (Lx l r) (Wt f p) = w at *
    have el : lplN r l (plN s0 f p) = l - r + 1 + K := by
      have : (lplN r l (plN s0 f p) + 300).toNat = K + (l - r + 301).toNat := by
        rw [q1] at e2; exact e2
      omega
    have hw : w + 1 ≤ 10 ^ r.toNat := hlt
    rw [sho_mul hr hw (by
      rcases Nat.eq_zero_or_pos K with z | z
      · exact .inl z
      · exact .inr (Nat.le_succ_of_le (hge (by omega)))), ← el]
    obtain ⟨c1, c2, c3⟩ := car_val (q := lplN r l (plN s0 f p)) hr hw (by omega) (by omega)
    rw [e2, q1] at c1
    have ml := mos_lt (k := K) hr hl hm hw
    rw [← c1] at ml
    generalize carN r (w + 1) (lplN r l (plN s0 f p)) = v at *
    unfold capN
    rw [← cap_iff hm c2 c3] at ml
    by_cases z : m < v.2 + nd v.1 - 1
    · rw [if_pos z, if_pos (ml.mpr z)]
    · rw [if_neg z, if_neg (fun y => z (ml.mp y))]
/-- towards nought, where it ends -/
theorem nea_to {r l m s : Int} (hr : 1 ≤ r ∧ r ≤ 24) {w k v : Nat} (h1 : w * 10 ^ k ≤ v) (h2 : v < (w + 1) * 10 ^ k) (hw : w < 10 ^ r.toNat) (hk : k = 0 ∨ 10 ^ (r.toNat - 1) ≤ w) : neaL r l m s v = ⟨"plain", s, w, l - r + 1 + k⟩ := by
  obtain ⟨e1, e2⟩ := kx_D hr.1 h1 h2 hw hk
  unfold neaL
  rw [stp_eq hr.1, e1, e2, sho_mul hr (Nat.le_of_lt hw) hk]
  unfold carN
  have := nd_lo hr.1 hw
  rw [if_neg (by omega)]
theorem nea_law {r l m : Int} {n : Nu} (hr : 1 ≤ r ∧ r ≤ 24) (hl : -60 ≤ l ∧ l ≤ 0) (hm : 0 ≤ m ∧ m ≤ 60) (o : okP n.s n.f n.p) (h : n.f ≠ 0) : neaL r l m n.s (neaG r l m (griN r l n) (griB r l n)) = neaN r l m n := by
  have hR := hr.1
  obtain ⟨b1, b2, b3, _⟩ := bnds hr hl hm
  obtain ⟨eg, eb⟩ := gri_B (l := l) hr hl o
  have R10 := ten_pos (r.toNat - 1)
  have e10 : 10 ^ r.toNat = 10 * 10 ^ (r.toNat - 1) := by rw [show r.toNat = (r.toNat - 1) + 1 by omega, Nat.pow_succ, Nat.mul_comm]; rfl
  obtain ⟨k0, s, f, p⟩ := n
  dsimp only at o h eg eb ⊢
  have hX := Wt_pos o h
  have hli : m < leadN ⟨k0, s, f, p⟩ ↔ 10 ^ Tx' m ≤ Wt f p := lead_iff hm o h
  obtain ⟨e1, e3⟩ := who_w hr hl o h
  have e2 := lpl_Q hr hl o h
  have hq := lpl_rg (n := plN s f p) o hr hl
  have pL := ten_pos (Lx l r)
  have mg := mos_gx hr hl hm
  have gl := gx_lt b3
  unfold neaN
  by_cases z : m < leadN ⟨k0, s, f, p⟩
  · rw [if_pos z]
    have hz := hli.mp z
    have a1 : mosN r l m < griN r l ⟨k0, s, f, p⟩ := by
      rw [eg, show mosN r l m < Wt f p / 10 ^ Lx l r ↔ mosN r l m + 1 ≤ Wt f p / 10 ^ Lx l r from Iff.rfl, Nat.le_div_iff_mul_le pL, Nat.add_mul, Nat.one_mul, mg]
      have := gx_eq b3
      have : 10 ^ Lx l r ≤ 10 ^ (Tx' m - Rx r) := pow10_le (by omega)
      omega
    have a2 : neaG r l m (griN r l ⟨k0, s, f, p⟩) (griB r l ⟨k0, s, f, p⟩) = mosN r l m := by
      unfold neaG
      split <;> omega
    rw [a2, ← gre_law (l := l) hr hl hm]
    unfold neaL
    have D := kx_D hR (w := 10 ^ r.toNat - 1) (k := (m - l).toNat) (v := mosN r l m) (Nat.le_refl _) (Nat.mul_lt_mul_of_pos_right (Nat.lt_succ_self _) (ten_pos _)) (by omega) (.inr (by omega))
    rw [stp_eq hR, D.1, D.2]
    rfl
  rw [if_neg z]
  have z' : ¬ 10 ^ Tx' m ≤ Wt f p := fun q => z (hli.mpr q)
  show _ = if 0 < prtX (plN s f p) (lplN r l (plN s f p)) then (⟨"plain", s, whoX (plN s f p) (lplN r l (plN s f p)), lplN r l (plN s f p)⟩ : Nu)
    else if whoX (plN s f p) (lplN r l (plN s f p)) = 10 ^ (r - 1).toNat ∧ l - r + 1 < lplN r l (plN s f p) then ⟨"plain", s, ((10 ^ r.toNat : Nat) : Int) - 1, lplN r l (plN s f p) - 1⟩
    else ⟨"plain", s, (whoX (plN s f p) (lplN r l (plN s f p)) : Int) - 1, lplN r l (plN s f p)⟩
  have pz : prtX (plN s f p) (lplN r l (plN s f p)) = 0 ↔ Wt f p % 10 ^ Qx (Rx r) (Lx l r) (Wt f p) = 0 := by rw [e3]; exact prt_zero
  obtain ⟨q1, q2⟩ := kx_Q (R := Rx r) (L0 := Lx l r) (W := Wt f p) hR rfl
  have hge := fun z => wx_ge (R := Rx r) (L0 := Lx l r) (X := Wt f p) hX z b1
  have hlt := wx_lt (R := Rx r) (L0 := Lx l r) (X := Wt f p)
  have hs := x_eq (R := Rx r) (L0 := Lx l r) (X := Wt f p)
  have hsu := wx_succ (R := Rx r) (L0 := Lx l r) (X := Wt f p)
  have gs := Nat.div_add_mod (Wt f p) (10 ^ Lx l r)
  rw [← eg] at q1 q2 gs
  rw [e1]
  rw [Nat.mul_comm] at gs
  generalize kx r (griN r l ⟨k0, s, f, p⟩) = K at *
  have ep : 10 ^ Qx (Rx r) (Lx l r) (Wt f p) = 10 ^ K * 10 ^ Lx l r := by rw [q1, Nat.pow_add]
  have mr := Nat.mod_lt (Wt f p) pL
  have el : lplN r l (plN s f p) = l - r + 1 + K := by
    have : (lplN r l (plN s f p) + 300).toNat = K + (l - r + 301).toNat := by rw [q1] at e2; exact e2
    omega
  rw [ep] at hs hsu pz
  have hge' : 0 < K → 10 ^ (r.toNat - 1) ≤ wxN (Rx r) (Lx l r) (Wt f p) := fun q => hge (by omega)
  have hlt' : wxN (Rx r) (Lx l r) (Wt f p) < 10 ^ r.toNat := hlt
  have hml := mos_lt (k := K) hr hl hm (Nat.le_of_lt hlt')
  rw [show 10 ^ (K + Lx l r) = 10 ^ K * 10 ^ Lx l r from Nat.pow_add _ _ _] at hml
  clear hge hlt q1 e2 e3 e1 hli ep
  generalize wxN (Rx r) (Lx l r) (Wt f p) = w at *
  generalize prtX (plN s f p) (lplN r l (plN s f p)) = P at *
  rw [el]
  rw [← Nat.mul_assoc] at hs hsu hml
  generalize Wt f p % (10 ^ K * 10 ^ Lx l r) = rem at *
  have wg : w * 10 ^ K ≤ griN r l ⟨k0, s, f, p⟩ := by rw [q2]; exact Nat.div_mul_le_self _ _
  have gw : griN r l ⟨k0, s, f, p⟩ < (w + 1) * 10 ^ K := by
    have := Nat.lt_mul_div_succ (griN r l ⟨k0, s, f, p⟩) (ten_pos K)
    rw [← q2, Nat.mul_comm] at this
    exact this
  have wm : w * 10 ^ K ≤ mosN r l m := Nat.not_lt.mp fun q => z' (by
    have := hml.mp q
    omega)
  have hcase : K = 0 ∨ 10 ^ (r.toNat - 1) ≤ w := by
    rcases Nat.eq_zero_or_pos K with q | q
    · exact .inl q
    · exact .inr (hge' q)
  have wle : w * 10 ^ K * 10 ^ Lx l r ≤ griN r l ⟨k0, s, f, p⟩ * 10 ^ Lx l r := Nat.mul_le_mul_right _ wg
  unfold neaG
  rw [eb]
  generalize griN r l ⟨k0, s, f, p⟩ = g at *
  by_cases z2 : 0 < P
  · rw [if_pos z2]
    have r0 : rem ≠ 0 := fun q => by have := pz.mpr q; omega
    refine nea_to hr ?_ ?_ hlt' hcase
    · refine Nat.le_min.mpr ⟨?_, wm⟩
      by_cases y : Wt f p % 10 ^ Lx l r ≠ 0
      · rw [if_pos (decide_eq_true y)]; exact wg
      · rw [if_neg (by rw [decide_eq_true_eq]; exact y)]
        have : w * 10 ^ K ≠ g := fun q => by rw [q] at hs; omega
        omega
    · refine Nat.lt_of_le_of_lt (Nat.min_le_left _ _) ?_
      omega
  · rw [if_neg z2]
    have r0 : rem = 0 := pz.mp (by omega)
    rw [r0, Nat.add_zero] at hs
    have m0 : Wt f p % 10 ^ Lx l r = 0 := by rw [← hs]; exact Nat.mul_mod_left _ _
    have eg2 : g = w * 10 ^ K := by
      rw [m0, Nat.add_zero, ← hs] at gs
      exact Nat.eq_of_mul_eq_mul_right pL gs
    have w1 : 1 ≤ w := by
      rcases Nat.eq_zero_or_pos w with q | q
      · rw [q, Nat.zero_mul, Nat.zero_mul] at hs; omega
      · exact q
    have hp := ten_pos K
    have g1 : 1 ≤ w * 10 ^ K := Nat.mul_pos w1 hp
    rw [if_neg (by rw [decide_eq_true_eq]; exact fun q => q m0), eg2, Nat.min_eq_left (by omega)]
    by_cases z3 : w = 10 ^ (r - 1).toNat ∧ l - r + 1 < l - r + 1 + K
    · rw [if_pos z3]
      have c1 : w = 10 ^ (r.toNat - 1) := by rw [z3.1]; congr 1; omega
      have c2 : 0 < K := by omega
      have ew : w * 10 ^ K = 10 ^ r.toNat * 10 ^ (K - 1) := by rw [c1, ← Nat.pow_add, ← Nat.pow_add]; congr 1; omega
      have q0 := ten_pos (K - 1)
      rw [ew, nea_to hr (w := 10 ^ r.toNat - 1) (k := K - 1) ?_ ?_ (by omega) (.inr (by omega))]
      · congr 1
        · omega
        · omega
      · have : 10 ^ r.toNat * 10 ^ (K - 1) = (10 ^ r.toNat - 1 + 1) * 10 ^ (K - 1) := by congr 1; omega
        rw [Nat.add_mul, Nat.one_mul] at this
        omega
      · rw [show 10 ^ r.toNat - 1 + 1 = 10 ^ r.toNat by omega]
        have := Nat.mul_pos (ten_pos r.toNat) q0
        omega
    · rw [if_neg z3]
      have ew : w * 10 ^ K = (w - 1) * 10 ^ K + 10 ^ K := by
        have : w * 10 ^ K = (w - 1 + 1) * 10 ^ K := by congr 1; omega
        rw [Nat.add_mul, Nat.one_mul] at this
        exact this
      rw [nea_to hr (w := w - 1) (k := K) (by omega) (by rw [show w - 1 + 1 = w by omega]; omega) (by omega) ?_]
      · congr 1
        omega
      · rcases hcase with q | q
        · exact .inl q
        · rcases Nat.eq_zero_or_pos K with q3 | q3
          · exact .inl q3
          · refine .inr ?_
            have : w ≠ 10 ^ (r.toNat - 1) := fun q4 => z3 ⟨by rw [q4]; congr 1; omega, by omega⟩
            omega

section
variable {P : Program} {w : World} {K : PySem.W.Frag} {mg : Str → Option Value} {base : Heap}
/-! is_whole -/
def sp_is_whole : SpQ := fun xs M Q _ => ∃ n lo hi : Int, xs = [.int n, .int lo, .int hi] ∧ Q (.bl (decide (lo ≤ n ∧ n ≤ hi))) M
theorem sp_is_whole_len : ∀ xs M Q E, sp_is_whole xs M Q E → xs.length = 3 := fun xs M Q E ⟨_, _, _, h, _⟩ => by rw [h]; rfl
theorem ok_is_whole (T : Tx K mg) : FnQ P w K mg base 1 T.a_is_whole T.d_is_whole ["thing", "least", "most"] sp_is_whole := by
  refine okQ T.F_is_whole sc_is_whole sp_is_whole_len (fun cdv A outer s0 H0 E hr => ?_)
  have tk := takes_of (X := cxOf (L2.CX P w) P w K mg base ["thing", "least", "most"] "is_whole" (defScope s_is_whole) T.a_is_whole cdv A outer s0 H0 E) (E := E) rfl rfl rfl rfl
  have po := passes_of (X := cxOf (L2.CX P w) P w K mg base ["thing", "least", "most"] "is_whole" (defScope s_is_whole) T.a_is_whole cdv A outer s0 H0 E) rfl
  refine ⟨_, (qss_one (qs_ret (qe_and (qe_callB (id := "isinstance") (cq_isiK (K := K) rfl) T.n_isinstance (qa_cons (qv 0) (qa_cons (qe_ty (n := "int") T.n_int) qa_nil))) (qe_and (qe_not (qe_callB (id := "isinstance") (cq_isiK (K := K) rfl) T.n_isinstance (qa_cons (qv 0) (qa_cons (qe_ty (n := "bool") T.n_bool) qa_nil)))) (qe_one (qe_chain oq_le oq_le (qv 1) (qv 0) (qv 2))))))), ?_⟩
  clear tk po
  clear hr
  rintro xs M Q E ⟨n, lo, hi, rfl, k⟩
  walk_at "q"
  refine iteP_of (fun h => ?_) (fun h => ?_)
  · walk_at "q"
    simpa only [h, true_and] using k
  · walk_at "q"
    simpa only [h, false_and, dec_f] using k

/-! Number___init__ -/
theorem ok_Number___init__ (T : Tx K mg) : FnOk P w K mg base (L2.CX P w) 1 T.a_Number___init__ T.d_Number___init__ ["self", "kind", "sign", "figures", "power"] (spInit T.c_Number ns_Number) := by
  refine FunD.ok T.F_Number___init__ sc_Number___init__ (fun vs H Q E h => ?_) (fun cdv A outer s H vs Q E hr h => ?_)
  · obtain ⟨x, dx, us, rfl, hl, _⟩ := h
    simpa using hl
  · obtain ⟨x, dx, us, rfl, hl, hx, k⟩ := h
    match us, hl, k with
    | [u1, u2, u3, u4], _, k =>
      have e1 : putF "kind" u1 ([] : List (Str × V)) = List.zip (["kind"] : List Str) ([u1] : List V) := rfl
      have e2 : putF "sign" u2 (List.zip (["kind"] : List Str) ([u1] : List V)) = List.zip (["kind", "sign"] : List Str) ([u1, u2] : List V) := putF_zip (ns := ["kind"]) (us := [u1]) (by decide +kernel) rfl
      have e3 : putF "figures" u3 (List.zip (["kind", "sign"] : List Str) ([u1, u2] : List V)) = List.zip (["kind", "sign", "figures"] : List Str) ([u1, u2, u3] : List V) := putF_zip (ns := ["kind", "sign"]) (us := [u1, u2]) (by decide +kernel) rfl
      have e4 : putF "power" u4 (List.zip (["kind", "sign", "figures"] : List Str) ([u1, u2, u3] : List V)) = List.zip (["kind", "sign", "figures", "power"] : List Str) ([u1, u2, u3, u4] : List V) := putF_zip (ns := ["kind", "sign", "figures"]) (us := [u1, u2, u3]) (by decide +kernel) rfl
      refine ⟨_, PSs.nox (pss_cons (ps_fld (pv 0) (pv 1) rfl) (pss_cons (ps_fld (pv 0) (pv 2) rfl) (pss_cons (ps_fld (pv 0) (pv 3) rfl) (pss_one (ps_fld (pv 0) (pv 4) rfl))))), ?_⟩
      refine ⟨_, rfl, _, rfl, x, T.c_Number, dx, _, rfl, hx, T.i_Number.cl, T.no_Number_kind, (by show 0 < 1000; decide), _, rfl, _, rfl, x, T.c_Number, dx, _, rfl, upd_same, T.i_Number.cl, T.no_Number_sign, (by rw [e1]; show 1 < 1000; decide), _, rfl, _, rfl, x, T.c_Number, dx, _, rfl, upd_same, T.i_Number.cl, T.no_Number_figures, (by rw [e1, e2]; show 2 < 1000; decide), _, rfl, _, rfl, x, T.c_Number, dx, _, rfl, upd_same, T.i_Number.cl, T.no_Number_power, (by rw [e1, e2, e3]; show 3 < 1000; decide), ?_⟩
      simp only [upd_upd]
      rw [e1, e2, e3, e4]
      exact k

/-! plain -/
def sp_plain (T : Tx K mg) : SpQ := fun xs M Q E => ∃ s f p : Int, xs = [.int s, .int f, .int p] ∧ if okP s f p then Q (numP T.c_Number "plain" s f p) M else E (.ref T.c_BadNumber) none M
theorem sp_plain_len (T : Tx K mg) : ∀ xs M Q E, sp_plain T xs M Q E → xs.length = 3 := fun xs M Q E ⟨_, _, _, h, _⟩ => by rw [h]; rfl
theorem ok_plain (T : Tx K mg) : FnQ P w K mg base 3 T.a_plain T.d_plain ["sign", "figures", "power"] (sp_plain T) := by
  refine okQ T.F_plain sc_plain (sp_plain_len T) (fun cdv A outer s0 H0 E hr => ?_)
  have tk := takes_of (X := cxOf (L2.CX P w) P w K mg base ["sign", "figures", "power"] "plain" (defScope s_plain) T.a_plain cdv A outer s0 H0 E) (E := E) rfl rfl rfl rfl
  have po := passes_of (X := cxOf (L2.CX P w) P w K mg base ["sign", "figures", "power"] "plain" (defScope s_plain) T.a_plain cdv A outer s0 H0 E) rfl
  refine ⟨_, (qss_cons (qs_if (qt_w (qw_or (qt_not (qt_val (qe_call (ok_is_whole T) (hr.mono (by decide)) T.m_is_whole T.F_is_whole.kp T.b_is_whole tk (qa_cons (qv 0) (qa_cons qe_int (qa_cons qe_int qa_nil)))))) (qw_one_or (qt_not (qt_val (qe_call (ok_is_whole T) (hr.mono (by decide)) T.m_is_whole T.F_is_whole.kp T.b_is_whole tk (qa_cons (qv 1) (qa_cons qe_int (qa_cons (qe_bin oq_sub (qe_bin oq_pow qe_int qe_int) qe_int) qa_nil)))))))))
  (qss_one (qs_raise T.x_BadNumber rfl tk T.m_BadNumber))
  qss_nil)
  (qss_cons (qs_if (qt_not (qt_val (qe_call (ok_is_whole T) (hr.mono (by decide)) T.m_is_whole T.F_is_whole.kp T.b_is_whole tk (qa_cons (qv 2) (qa_cons (qe_neg (qe_gint T.g_MOST_POWER)) (qa_cons (qe_gint T.g_MOST_POWER) qa_nil))))))
  (qss_one (qs_raise T.x_BadNumber rfl tk T.m_BadNumber))
  qss_nil)
  (qss_one (qs_ret (qe_makeD (dvs := []) (dps := []) T.mk_Number (ok_Number___init__ T) hr T.m_Number T.b_Number_4 (fun _ => Reps.nil) tk (qa_cons qe_str (qa_cons (qv 0) (qa_cons (qv 1) (qa_cons (qv 2) qa_nil))))))))), ?_⟩
  clear tk po
  clear hr
  rintro xs M Q E ⟨s, f, p, rfl, k⟩
  walk_at "q"
  refine ⟨_, _, _, rfl, ?_⟩
  walk_at "q"
  refine iteP_of (fun h1 => ?_) (fun h1 => ?_)
  · walk_at "q"
    refine ⟨⟨by decide, by decide, by decide⟩, _, _, _, rfl, ?_⟩
    walk_at "q"
    have e60 : (10 : Int) ^ (60 : Int).toNat = 10 ^ 60 := rfl
    rw [e60]
    refine iteP_of (fun h2 => ?_) (fun h2 => ?_)
    · walk_at "q"
      refine ⟨_, _, _, rfl, ?_⟩
      walk_at "q"
      refine iteP_of (fun h3 => ?_) (fun h3 => ?_)
      · walk_at "q"
        rw [if_pos (show okP s f p from ⟨h1, h2, h3⟩)] at k
        exact k
      · walk_at "q"
        rw [if_neg (show ¬ okP s f p from fun z => h3 z.2.2)] at k
        exact k
    · walk_at "q"
      rw [if_neg (show ¬ okP s f p from fun z => h2 z.2.1)] at k
      exact k
  · walk_at "q"
    rw [if_neg (show ¬ okP s f p from fun z => h1 z.1)] at k
    exact k

/-! end -/
def sp_end (T : Tx K mg) : SpQ := fun xs M Q E => ∃ s : Int, xs = [.int s] ∧ if 0 ≤ s ∧ s ≤ 1 then Q (numP T.c_Number "end" s 0 0) M else E (.ref T.c_BadNumber) none M
theorem sp_end_len (T : Tx K mg) : ∀ xs M Q E, sp_end T xs M Q E → xs.length = 1 := fun xs M Q E ⟨_, h, _⟩ => by rw [h]; rfl
theorem ok_end (T : Tx K mg) : FnQ P w K mg base 3 T.a_end T.d_end ["sign"] (sp_end T) := by
  refine okQ T.F_end sc_end (sp_end_len T) (fun cdv A outer s0 H0 E hr => ?_)
  have tk := takes_of (X := cxOf (L2.CX P w) P w K mg base ["sign"] "end" (defScope s_end) T.a_end cdv A outer s0 H0 E) (E := E) rfl rfl rfl rfl
  have po := passes_of (X := cxOf (L2.CX P w) P w K mg base ["sign"] "end" (defScope s_end) T.a_end cdv A outer s0 H0 E) rfl
  refine ⟨_, (qss_cons (qs_if (qt_not (qt_val (qe_call (ok_is_whole T) (hr.mono (by decide)) T.m_is_whole T.F_is_whole.kp T.b_is_whole tk (qa_cons (qv 0) (qa_cons qe_int (qa_cons qe_int qa_nil))))))
  (qss_one (qs_raise T.x_BadNumber rfl tk T.m_BadNumber))
  qss_nil)
  (qss_one (qs_ret (qe_makeD (dvs := []) (dps := []) T.mk_Number (ok_Number___init__ T) hr T.m_Number T.b_Number_4 (fun _ => Reps.nil) tk (qa_cons qe_str (qa_cons (qv 0) (qa_cons qe_int (qa_cons qe_int qa_nil)))))))), ?_⟩
  clear tk po
  clear hr
  rintro xs M Q E ⟨s, rfl, k⟩
  walk_at "q"
  refine ⟨_, _, _, rfl, ?_⟩
  walk_at "q"
  refine iteP_of (fun h => ?_) (fun h => ?_)
  · walk_at "q"
    rw [if_pos h] at k
    exact k
  · walk_at "q"
    rw [if_neg h] at k
    exact k

/-! nothing -/
def sp_nothing (T : Tx K mg) : SpQ := fun xs M Q _ => xs = [] ∧ Q (numP T.c_Number "none" 0 0 0) M
theorem sp_nothing_len (T : Tx K mg) : ∀ xs M Q E, sp_nothing T xs M Q E → xs.length = 0 := fun xs M Q E ⟨h, _⟩ => by rw [h]; rfl
theorem ok_nothing (T : Tx K mg) : FnQ P w K mg base 3 T.a_nothing T.d_nothing [] (sp_nothing T) := by
  refine okQ T.F_nothing sc_nothing (sp_nothing_len T) (fun cdv A outer s0 H0 E hr => ?_)
  have tk := takes_of (X := cxOf (L2.CX P w) P w K mg base [] "nothing" (defScope s_nothing) T.a_nothing cdv A outer s0 H0 E) (E := E) rfl rfl rfl rfl
  have po := passes_of (X := cxOf (L2.CX P w) P w K mg base [] "nothing" (defScope s_nothing) T.a_nothing cdv A outer s0 H0 E) rfl
  refine ⟨_, (qss_one (qs_ret (qe_makeD (dvs := []) (dps := []) T.mk_Number (ok_Number___init__ T) hr T.m_Number T.b_Number_4 (fun _ => Reps.nil) tk (qa_cons qe_str (qa_cons qe_int (qa_cons qe_int (qa_cons qe_int qa_nil))))))), ?_⟩
  clear tk po
  clear hr
  rintro xs M Q E ⟨rfl, k⟩
  walk_at "q"
  exact k

/-! need_number -/
def sp_need_number (T : Tx K mg) : SpQ := fun xs M Q _ => ∃ (k : String) (s f p : Int), xs = [numP T.c_Number k s f p] ∧ Q (numP T.c_Number k s f p) M
theorem sp_need_number_len (T : Tx K mg) : ∀ xs M Q E, sp_need_number T xs M Q E → xs.length = 1 := fun xs M Q E ⟨_, _, _, _, h, _⟩ => by rw [h]; rfl
theorem ok_need_number (T : Tx K mg) : FnQ P w K mg base 1 T.a_need_number T.d_need_number ["thing"] (sp_need_number T) := by
  refine okQ T.F_need_number sc_need_number (sp_need_number_len T) (fun cdv A outer s0 H0 E hr => ?_)
  have tk := takes_of (X := cxOf (L2.CX P w) P w K mg base ["thing"] "need_number" (defScope s_need_number) T.a_need_number cdv A outer s0 H0 E) (E := E) rfl rfl rfl rfl
  have po := passes_of (X := cxOf (L2.CX P w) P w K mg base ["thing"] "need_number" (defScope s_need_number) T.a_need_number cdv A outer s0 H0 E) rfl
  refine ⟨_, (qss_cons (qs_if (qt_not (qt_val (qe_callB (id := "isinstance") (cq_isiK (K := K) rfl) T.n_isinstance (qa_cons (qv 0) (qa_cons (qe_cls T.m_Number) qa_nil)))))
  (qss_one (qs_raise T.x_BadNumber rfl tk T.m_BadNumber))
  qss_nil)
  (qss_one (qs_ret (qv 0)))), ?_⟩
  clear tk po
  clear hr
  rintro xs M Q E ⟨kd, s, f, p, rfl, k⟩
  walk_at "q"
  exact k

/-! told -/
def sp_told (T : Tx K mg) : SpQ := fun xs M Q _ => ∃ (k : String) (s f p : Int), xs = [numP T.c_Number k s f p] ∧ Q (.tup [.str k, .int s, .int f, .int p]) M
theorem sp_told_len (T : Tx K mg) : ∀ xs M Q E, sp_told T xs M Q E → xs.length = 1 := fun xs M Q E ⟨_, _, _, _, h, _⟩ => by rw [h]; rfl
theorem ok_told (T : Tx K mg) : FnQ P w K mg base 2 T.a_told T.d_told ["number"] (sp_told T) := by
  refine okQ T.F_told sc_told (sp_told_len T) (fun cdv A outer s0 H0 E hr => ?_)
  have tk := takes_of (X := cxOf (L2.CX P w) P w K mg base ["number"] "told" (defScope s_told) T.a_told cdv A outer s0 H0 E) (E := E) rfl rfl rfl rfl
  have po := passes_of (X := cxOf (L2.CX P w) P w K mg base ["number"] "told" (defScope s_told) T.a_told cdv A outer s0 H0 E) rfl
  refine ⟨_, (qss_cons (qs_expr (qe_call (ok_need_number T) hr T.m_need_number T.F_need_number.kp T.b_need_number tk (qa_cons (qv 0) qa_nil)))
  (qss_one (qs_ret (qe_tup (qa_cons (qe_fldK (K := K) rfl (qv 0)) (qa_cons (qe_fldK (K := K) rfl (qv 0)) (qa_cons (qe_fldK (K := K) rfl (qv 0)) (qa_cons (qe_fldK (K := K) rfl (qv 0)) qa_nil)))))))), ?_⟩
  clear tk po
  clear hr
  rintro xs M Q E ⟨kd, s, f, p, rfl, k⟩
  walk_at "q"
  refine ⟨kd, s, f, p, rfl, ?_⟩
  walk_at "q"
  exact k

/-! ten_to -/
def sp_ten_to : SpQ := fun xs M Q _ => ∃ n : Int, xs = [.int n] ∧ n ≤ 5000 ∧ Q (.int ((10 ^ n.toNat : Nat) : Int)) M
theorem sp_ten_to_len : ∀ xs M Q E, sp_ten_to xs M Q E → xs.length = 1 := fun xs M Q E ⟨_, h, _⟩ => by rw [h]; rfl
theorem ok_ten_to (T : Tx K mg) : FnQ P w K mg base 1 T.a_ten_to T.d_ten_to ["power"] sp_ten_to := by
  refine okQ T.F_ten_to sc_ten_to sp_ten_to_len (fun cdv A outer s0 H0 E hr => ?_)
  have tk := takes_of (X := cxOf (L2.CX P w) P w K mg base ["power", "found", "base", "odd"] "ten_to" (defScope s_ten_to) T.a_ten_to cdv A outer s0 H0 E) (E := E) rfl rfl rfl rfl
  have po := passes_of (X := cxOf (L2.CX P w) P w K mg base ["power", "found", "base", "odd"] "ten_to" (defScope s_ten_to) T.a_ten_to cdv A outer s0 H0 E) rfl
  refine ⟨_, (qss_cons (qs_set 1 sc_ten_to.nd qe_int)
  (qss_cons (qs_set 2 sc_ten_to.nd qe_int)
  (qss_cons (qs_while po (qt_cmp oq_gt (qv 0) qe_int)
  (qss_cons (qs_asg (qe_callB (id := "divmod") cq_divmod T.n_divmod (qa_cons (qv 0) (qa_cons qe_int qa_nil))) (qg_tup (n := 2) rfl (qgs_cons (qg_name (i := 0) sc_ten_to.nd) (qgs_cons (qg_name (i := 3) sc_ten_to.nd) qgs_nil))))
  (qss_cons (qs_if (qt_cmp (oq_eq hr.units) (qv 3) qe_int)
  (qss_one (qs_aug 1 sc_ten_to.nd iq_mul (qv 2)))
  qss_nil)
  (qss_one (qs_aug 2 sc_ten_to.nd iq_mul (qv 2))))))
  (qss_one (qs_ret (qv 1)))))), ?_⟩
  clear tk po
  clear hr
  rintro xs M Q E ⟨n, rfl, hn, k⟩
  walk_at "q"
  refine sWhile_of (fun m env M' => ∃ (p : Int) (g e : Nat) (o : Option PV), env = [some (.int p), some (.int ((10 ^ g : Nat) : Int)), some (.int ((10 ^ e : Nat) : Int)), o] ∧ M' = M ∧ g + e * p.toNat = n.toNat ∧ p.toNat ≤ n.toNat ∧ m = p.toNat) ⟨_, n, 0, 1, none, by simp, rfl, by omega, by omega, rfl⟩ ?_
  rintro m env M' ⟨p, g, e, o, rfl, rfl, hp, hpn, rfl⟩
  walk_at "q"
  by_cases h0 : p ≤ 0
  · have z : p.toNat = 0 := by omega
    rw [z, Nat.mul_zero] at hp
    refine iteP_f (by omega) ?_
    walk_at "q"
    rw [show g = n.toNat by omega]
    exact k
  · obtain ⟨m, rfl⟩ : ∃ m : Nat, p = m := ⟨p.toNat, by omega⟩
    rw [Int.toNat_natCast] at hp hpn
    have he : e * 1 ≤ e * m := Nat.mul_le_mul_left e (by omega)
    have hg : e * (m / 2) + e * (m / 2) + e * (m % 2) = e * m := by rw [← Nat.mul_add, ← Nat.mul_add]; congr 1; omega
    have hz : IntMulOk ((10 ^ e : Nat) : Int) ((10 ^ e : Nat) : Int) := mul_ok_nat (pow10_16 e) (pow10_16 e) (by omega)
    have hz2 : IntMulOk ((10 ^ g : Nat) : Int) ((10 ^ e : Nat) : Int) := mul_ok_nat (pow10_16 g) (pow10_16 e) (by omega)
    refine iteP_t (by omega) ?_
    walk_at "q"
    refine ⟨divp (n := 2) (by decide) (by decide), ?_⟩
    have sq : ((10 ^ e : Nat) : Int) * ((10 ^ e : Nat) : Int) = ((10 ^ (e + e) : Nat) : Int) := by rw [Nat.pow_add, Int.natCast_mul]
    have gq : ((10 ^ g : Nat) : Int) * ((10 ^ e : Nat) : Int) = ((10 ^ (g + e) : Nat) : Int) := by rw [Nat.pow_add, Int.natCast_mul]
    have dv : (m : Int) / 2 = ((m / 2 : Nat) : Int) := by omega
    have dd : (e + e) * (m / 2) = e * (m / 2) + e * (m / 2) := Nat.add_mul e e _

    refine iteP_of (fun h1 => ?_) (fun h1 => ?_)
    · walk_at "q"
      rw [sq, gq, dv]
      refine ⟨hz2, hz, m / 2, by omega, ((m / 2 : Nat) : Int), g + e, e + e, _, rfl, ?_, by omega, by omega⟩
      have e1 : m % 2 = 1 := by omega
      rw [e1, Nat.mul_one] at hg
      rw [Int.toNat_natCast]
      omega
    · walk_at "q"
      rw [sq, dv]
      refine ⟨hz, m / 2, by omega, ((m / 2 : Nat) : Int), g, e + e, _, rfl, ?_, by omega, by omega⟩
      have e1 : m % 2 = 0 := by omega
      rw [e1, Nat.mul_zero] at hg
      rw [Int.toNat_natCast]
      omega

/-! count_of -/
def sp_count_of : SpQ := fun xs M Q _ => ∃ n : Nat, xs = [.int n] ∧ n < 10 ^ 4000 ∧ Q (.int (nd n)) M
theorem sp_count_of_len : ∀ xs M Q E, sp_count_of xs M Q E → xs.length = 1 := fun xs M Q E ⟨_, h, _⟩ => by rw [h]; rfl
theorem ok_count_of (T : Tx K mg) : FnQ P w K mg base 2 T.a_count_of T.d_count_of ["figures"] sp_count_of := by
  refine okQ T.F_count_of sc_count_of sp_count_of_len (fun cdv A outer s0 H0 E hr => ?_)
  have tk := takes_of (X := cxOf (L2.CX P w) P w K mg base ["figures", "many", "bound"] "count_of" (defScope s_count_of) T.a_count_of cdv A outer s0 H0 E) (E := E) rfl rfl rfl rfl
  have po := passes_of (X := cxOf (L2.CX P w) P w K mg base ["figures", "many", "bound"] "count_of" (defScope s_count_of) T.a_count_of cdv A outer s0 H0 E) rfl
  refine ⟨_, (qss_cons (qs_set 1 sc_count_of.nd (qe_callB (id := "max") (cq_max rfl) T.n_max (qa_cons qe_int (qa_cons (qe_bin oq_div (qe_bin oq_mul (qe_bin oq_sub (qe_bits (qv 0)) qe_int) qe_int) qe_int) qa_nil))))
  (qss_cons (qs_set 2 sc_count_of.nd (qe_call (ok_ten_to T) hr T.m_ten_to T.F_ten_to.kp T.b_ten_to tk (qa_cons (qv 1) qa_nil)))
  (qss_cons (qs_while po (qt_cmp oq_ge (qv 0) (qv 2))
  (qss_cons (qs_aug 1 sc_count_of.nd iq_addG qe_int)
  (qss_one (qs_aug 2 sc_count_of.nd iq_mul qe_int))))
  (qss_one (qs_ret (qe_callB (id := "max") (cq_max rfl) T.n_max (qa_cons qe_int (qa_cons (qv 1) qa_nil)))))))), ?_⟩
  clear tk po
  clear hr
  rintro xs M Q E ⟨n, rfl, hn, k⟩
  walk_at "q"
  have h0 : n = 0 ∨ 2 ^ (Builtin.Int.intBits (n : Int) - 1) ≤ n ∧ 1 ≤ Builtin.Int.intBits (n : Int) := by
    rcases Nat.eq_zero_or_pos n with z | z
    · exact .inl z
    · refine .inr ?_
      unfold Builtin.Int.intBits
      rw [if_neg (by simpa using (show (n : Int) ≠ 0 by omega)), Int.natAbs_natCast]
      exact ⟨by simpa using Nat.log2_self_le (by omega), by omega⟩
  have hb : Builtin.Int.intBits (n : Int) ≤ 4 * 4000 + 1 := PyProof.Rows.intBits_le (by rw [Int.natAbs_natCast]; exact Nat.lt_trans hn (pow10_16 4000))
  have hb0 : n = 0 → Builtin.Int.intBits (n : Int) = 0 := fun z => by subst z; rfl
  generalize Builtin.Int.intBits (n : Int) = b at h0 hb hb0 ⊢
  obtain ⟨m, hm, hmg⟩ : ∃ m : Nat, max 0 (((b : Int) - 1) * 30102 / 100000) = (m : Int) ∧ (n = 0 ∧ m = 0 ∨ 10 ^ m ≤ n) ∧ m ≤ 5000 := by
    refine ⟨(max 0 (((b : Int) - 1) * 30102 / 100000)).toNat, by omega, ?_, by omega⟩
    rcases h0 with z | ⟨h1, h2⟩
    · have := hb0 z
      exact .inl ⟨z, by omega⟩
    · exact .inr (Nat.le_trans (guess (b := b - 1) (by omega)) h1)
  refine ⟨mul_ok_r (by decide) (by decide), ⟨by decide, by decide +kernel⟩, ?_⟩
  rw [hm]
  refine ⟨_, rfl, by omega, ?_⟩
  rw [Int.toNat_natCast]
  refine sWhile_of (fun k env M' => ∃ c : Nat, env = [some (.int n), some (.int c), some (.int ((10 ^ c : Nat) : Int))] ∧ M' = M ∧ (n = 0 ∧ c = 0 ∨ 10 ^ c ≤ n ∨ 1 ≤ c ∧ 10 ^ (c - 1) ≤ n) ∧ k = n + 1 - 10 ^ c) ⟨_, m, rfl, rfl, by rcases hmg.1 with h | h; exact .inl h; exact .inr (.inl h), rfl⟩ ?_
  rintro l env M' ⟨c, rfl, rfl, hc, rfl⟩
  walk_at "q"
  have p1 := ten_pos c
  have e10 : ((10 ^ c : Nat) : Int) * 10 = ((10 ^ (c + 1) : Nat) : Int) := by rw [Nat.pow_succ, Int.natCast_mul]; rfl
  have p2 : 10 ^ (c + 1) = 10 ^ c * 10 := Nat.pow_succ ..
  refine iteP_of (fun h1 => ?_) (fun h1 => ?_)
  · walk_at "q"
    rw [e10]
    refine ⟨mul_ok_r (by decide) (by decide), _, ?_, c + 1, by simp, .inr (.inr ⟨by omega, by simpa using (by omega : 10 ^ c ≤ n)⟩), rfl⟩
    omega
  · have hl : n < 10 ^ c := by omega
    have : max 1 (c : Int) = (nd n : Int) := by
      rcases hc with ⟨z1, z2⟩ | z | ⟨z1, z2⟩
      · subst z1 z2; rw [nd_zero]; rfl
      · omega
      · rw [nd_of z1 z2 hl]; omega
    walk_at "q"
    rw [this]
    exact k

/-! lead_of -/
def sp_lead_of (T : Tx K mg) : SpQ := fun xs M Q _ => ∃ n : Nu, xs = [n.pv T.c_Number] ∧ okP n.s n.f n.p ∧ Q (.int (leadN n)) M
theorem sp_lead_of_len (T : Tx K mg) : ∀ xs M Q E, sp_lead_of T xs M Q E → xs.length = 1 := fun xs M Q E ⟨_, h, _⟩ => by rw [h]; rfl
theorem ok_lead_of (T : Tx K mg) : FnQ P w K mg base 3 T.a_lead_of T.d_lead_of ["number"] (sp_lead_of T) := by
  refine okQ T.F_lead_of sc_lead_of (sp_lead_of_len T) (fun cdv A outer s0 H0 E hr => ?_)
  have tk := takes_of (X := cxOf (L2.CX P w) P w K mg base ["number"] "lead_of" (defScope s_lead_of) T.a_lead_of cdv A outer s0 H0 E) (E := E) rfl rfl rfl rfl
  have po := passes_of (X := cxOf (L2.CX P w) P w K mg base ["number"] "lead_of" (defScope s_lead_of) T.a_lead_of cdv A outer s0 H0 E) rfl
  refine ⟨_, (qss_one (qs_ret (qe_bin oq_sub (qe_bin oq_add (qe_fldK (K := K) rfl (qv 0)) (qe_call (ok_count_of T) hr T.m_count_of T.F_count_of.kp T.b_count_of tk (qa_cons (qe_fldK (K := K) rfl (qv 0)) qa_nil))) qe_int))), ?_⟩
  clear tk po
  clear hr
  rintro xs M Q E ⟨n, rfl, o, k⟩
  have hf := o.2.1
  unfold Nu.pv
  walk_at "q"
  refine ⟨n.f.toNat, by rw [Int.toNat_of_nonneg hf.1], Nat.lt_trans (by omega : n.f.toNat < 10 ^ 60) (pow10_lt (by decide)), ?_⟩
  walk_at "q"
  exact k

/-! part_of -/
def sp_part_of : SpQ := fun xs M Q _ => ∃ r b : Nat, xs = [.int r, .int b] ∧ Q (.int (prt r b)) M
theorem sp_part_of_len : ∀ xs M Q E, sp_part_of xs M Q E → xs.length = 2 := fun xs M Q E ⟨_, _, h, _⟩ => by rw [h]; rfl
theorem ok_part_of (T : Tx K mg) : FnQ P w K mg base 1 T.a_part_of T.d_part_of ["rest", "bottom"] sp_part_of := by
  refine okQ T.F_part_of sc_part_of sp_part_of_len (fun cdv A outer s0 H0 E hr => ?_)
  have tk := takes_of (X := cxOf (L2.CX P w) P w K mg base ["rest", "bottom"] "part_of" (defScope s_part_of) T.a_part_of cdv A outer s0 H0 E) (E := E) rfl rfl rfl rfl
  have po := passes_of (X := cxOf (L2.CX P w) P w K mg base ["rest", "bottom"] "part_of" (defScope s_part_of) T.a_part_of cdv A outer s0 H0 E) rfl
  refine ⟨_, (qss_cons (qs_if (qt_cmp (oq_eq hr.units) (qv 0) qe_int)
  (qss_one (qs_ret qe_int))
  qss_nil)
  (qss_one (qs_ret (qe_bin oq_sub (qe_bin oq_add qe_int (qe_callT (T := "int") cq_int T.n_int (qa_cons (qe_cmp oq_gt (qe_bin oq_mul qe_int (qv 0)) (qv 1)) qa_nil))) (qe_callT (T := "int") cq_int T.n_int (qa_cons (qe_cmp oq_lt (qe_bin oq_mul qe_int (qv 0)) (qv 1)) qa_nil)))))), ?_⟩
  clear tk po
  clear hr
  rintro xs M Q E ⟨r, b, rfl, k⟩
  walk_at "q"
  have e := prt_eq r b
  refine iteP_of (fun h1 => ?_) (fun h1 => ?_)
  · walk_at "q"
    rw [prt, if_pos (by omega)] at k; exact k
  · walk_at "q"
    refine ⟨mul_ok_l (by decide) (by decide), mul_ok_l (by decide) (by decide), ?_⟩
    rw [e (by omega)]
    exact k

/-! Ratio___init__ -/
theorem ok_Ratio___init__ (T : Tx K mg) : FnOk P w K mg base (L2.CX P w) 1 T.a_Ratio___init__ T.d_Ratio___init__ ["self", "top", "bottom", "power"] (spInit T.c_Ratio ns_Ratio) := by
  refine FunD.ok T.F_Ratio___init__ sc_Ratio___init__ (fun vs H Q E h => ?_) (fun cdv A outer s H vs Q E hr h => ?_)
  · obtain ⟨x, dx, us, rfl, hl, _⟩ := h
    simpa using hl
  · obtain ⟨x, dx, us, rfl, hl, hx, k⟩ := h
    match us, hl, k with
    | [u1, u2, u3], _, k =>
      have e1 : putF "top" u1 ([] : List (Str × V)) = List.zip (["top"] : List Str) ([u1] : List V) := rfl
      have e2 : putF "bottom" u2 (List.zip (["top"] : List Str) ([u1] : List V)) = List.zip (["top", "bottom"] : List Str) ([u1, u2] : List V) := putF_zip (ns := ["top"]) (us := [u1]) (by decide +kernel) rfl
      have e3 : putF "scale" u3 (List.zip (["top", "bottom"] : List Str) ([u1, u2] : List V)) = List.zip (["top", "bottom", "scale"] : List Str) ([u1, u2, u3] : List V) := putF_zip (ns := ["top", "bottom"]) (us := [u1, u2]) (by decide +kernel) rfl
      refine ⟨_, PSs.nox (pss_cons (ps_fld (pv 0) (pv 1) rfl) (pss_cons (ps_fld (pv 0) (pv 2) rfl) (pss_one (ps_fld (pv 0) (pv 3) rfl)))), ?_⟩
      refine ⟨_, rfl, _, rfl, x, T.c_Ratio, dx, _, rfl, hx, T.i_Ratio.cl, T.no_Ratio_top, (by show 0 < 1000; decide), _, rfl, _, rfl, x, T.c_Ratio, dx, _, rfl, upd_same, T.i_Ratio.cl, T.no_Ratio_bottom, (by rw [e1]; show 1 < 1000; decide), _, rfl, _, rfl, x, T.c_Ratio, dx, _, rfl, upd_same, T.i_Ratio.cl, T.no_Ratio_scale, (by rw [e1, e2]; show 2 < 1000; decide), ?_⟩
      simp only [upd_upd]
      rw [e1, e2, e3]
      exact k

/-! Ratio_at -/
def sp_Ratio_at (T : Tx K mg) : SpQ := fun xs M Q _ => ∃ (t b : Nat) (s p : Int), xs = [rat T.c_Ratio t b s, .int p] ∧ (1 ≤ b ∧ t < 10 ^ 2000 ∧ b < 10 ^ 2000 ∧ (-4000 ≤ s - p ∧ s - p ≤ 4000) ∧ sideL b (s - p) < 2 ^ 8000) ∧
  Q (.tup [.int ((sideH t (s - p) / sideL b (s - p) : Nat) : Int), .int (prt (sideH t (s - p) % sideL b (s - p)) (sideL b (s - p)))]) M
theorem sp_Ratio_at_len (T : Tx K mg) : ∀ xs M Q E, sp_Ratio_at T xs M Q E → xs.length = 2 := fun xs M Q E ⟨_, _, _, _, h, _⟩ => by rw [h]; rfl
theorem ok_Ratio_at (T : Tx K mg) : FnQ P w K mg base 2 T.a_Ratio_at T.d_Ratio_at ["self", "power"] (sp_Ratio_at T) := by
  refine okQ T.F_Ratio_at sc_Ratio_at (sp_Ratio_at_len T) (fun cdv A outer s0 H0 E hr => ?_)
  have tk := takes_of (X := cxOf (L2.CX P w) P w K mg base ["self", "power", "shift", "bottom", "whole", "rest"] "Ratio.at" (defScope s_Ratio_at) T.a_Ratio_at cdv A outer s0 H0 E) (E := E) rfl rfl rfl rfl
  have po := passes_of (X := cxOf (L2.CX P w) P w K mg base ["self", "power", "shift", "bottom", "whole", "rest"] "Ratio.at" (defScope s_Ratio_at) T.a_Ratio_at cdv A outer s0 H0 E) rfl
  refine ⟨_, (qss_cons (qs_set 2 sc_Ratio_at.nd (qe_bin oq_sub (qe_fldK (K := K) rfl (qv 0)) (qv 1)))
  (qss_cons (qs_set 3 sc_Ratio_at.nd (qe_bin oq_mul (qe_fldK (K := K) rfl (qv 0)) (qe_call (ok_ten_to T) hr T.m_ten_to T.F_ten_to.kp T.b_ten_to tk (qa_cons (qe_callB (id := "max") (cq_max rfl) T.n_max (qa_cons (qe_bin oq_sub qe_int (qv 2)) (qa_cons qe_int qa_nil))) qa_nil))))
  (qss_cons (qs_asg (qe_callB (id := "divmod") cq_divmod T.n_divmod (qa_cons (qe_bin oq_mul (qe_fldK (K := K) rfl (qv 0)) (qe_call (ok_ten_to T) hr T.m_ten_to T.F_ten_to.kp T.b_ten_to tk (qa_cons (qe_callB (id := "max") (cq_max rfl) T.n_max (qa_cons (qv 2) (qa_cons qe_int qa_nil))) qa_nil))) (qa_cons (qv 3) qa_nil))) (qg_tup (n := 2) rfl (qgs_cons (qg_name (i := 4) sc_Ratio_at.nd) (qgs_cons (qg_name (i := 5) sc_Ratio_at.nd) qgs_nil))))
  (qss_one (qs_ret (qe_tup (qa_cons (qv 4) (qa_cons (qe_call (ok_part_of T) hr T.m_part_of T.F_part_of.kp T.b_part_of tk (qa_cons (qv 5) (qa_cons (qv 3) qa_nil))) qa_nil)))))))), ?_⟩
  clear tk po
  clear hr
  rintro xs M Q E ⟨t, b, s, p, rfl, ⟨h1, ht, hb, l1, l2⟩, k⟩
  walk_at "q"
  refine ⟨_, rfl, by omega, ?_⟩
  walk_at "q"
  refine ⟨mul_ok_nat (pow10_lt_2 hb) (pow10_16 _) (by omega), ?_⟩
  refine ⟨_, rfl, by omega, ?_⟩
  walk_at "q"
  refine ⟨mul_ok_nat (pow10_lt_2 ht) (pow10_16 _) (by omega), ?_⟩
  have e1 : (t : Int) * ((10 ^ (max (s - p) 0).toNat : Nat) : Int) = (sideH t (s - p) : Nat) := by
    unfold sideH; rw [Int.natCast_mul]; congr 3; omega
  have e2 : (b : Int) * ((10 ^ (max (0 - (s - p)) 0).toNat : Nat) : Int) = (sideL b (s - p) : Nat) := by
    unfold sideL; rw [Int.natCast_mul]; congr 3; omega
  rw [e1, e2]
  have hp := sideL_pos h1 (s - p)
  refine ⟨divp (n := 8000) (by omega) (by rw [Int.natAbs_natCast]; exact l2) (by decide), ?_⟩
  rw [← Int.natCast_ediv, ← Int.natCast_emod]
  refine ⟨_, _, rfl, ?_⟩
  walk_at "q"
  exact k

/-! Way_name -/
def sp_Way_name : SpQ := fun xs M Q _ => ∃ x : PV, xs = [x] ∧ Q (.str (Wy.down.name : String)) M
theorem sp_Way_name_len : ∀ xs M Q E, sp_Way_name xs M Q E → xs.length = 1 := fun xs M Q E ⟨_, h, _⟩ => by rw [h]; rfl
theorem ok_Way_name (T : Tx K mg) : FnQ P w K mg base 1 T.a_Way_name T.d_Way_name ["self"] sp_Way_name := by
  refine okQ T.F_Way_name sc_Way_name sp_Way_name_len (fun cdv A outer s0 H0 E hr => ?_)
  have tk := takes_of (X := cxOf (L2.CX P w) P w K mg base ["self"] "Way.name" (defScope s_Way_name) T.a_Way_name cdv A outer s0 H0 E) (E := E) rfl rfl rfl rfl
  have po := passes_of (X := cxOf (L2.CX P w) P w K mg base ["self"] "Way.name" (defScope s_Way_name) T.a_Way_name cdv A outer s0 H0 E) rfl
  refine ⟨_, (qss_one (qs_ret qe_str)), ?_⟩
  clear tk po
  clear hr
  rintro xs M Q E ⟨x, rfl, k⟩
  walk_at "q"
  exact k

/-! Up_name -/
def sp_Up_name : SpQ := fun xs M Q _ => ∃ x : PV, xs = [x] ∧ Q (.str (Wy.up.name : String)) M
theorem sp_Up_name_len : ∀ xs M Q E, sp_Up_name xs M Q E → xs.length = 1 := fun xs M Q E ⟨_, h, _⟩ => by rw [h]; rfl
theorem ok_Up_name (T : Tx K mg) : FnQ P w K mg base 1 T.a_Up_name T.d_Up_name ["self"] sp_Up_name := by
  refine okQ T.F_Up_name sc_Up_name sp_Up_name_len (fun cdv A outer s0 H0 E hr => ?_)
  have tk := takes_of (X := cxOf (L2.CX P w) P w K mg base ["self"] "Up.name" (defScope s_Up_name) T.a_Up_name cdv A outer s0 H0 E) (E := E) rfl rfl rfl rfl
  have po := passes_of (X := cxOf (L2.CX P w) P w K mg base ["self"] "Up.name" (defScope s_Up_name) T.a_Up_name cdv A outer s0 H0 E) rfl
  refine ⟨_, (qss_one (qs_ret qe_str)), ?_⟩
  clear tk po
  clear hr
  rintro xs M Q E ⟨x, rfl, k⟩
  walk_at "q"
  exact k

/-! Floor_name -/
def sp_Floor_name : SpQ := fun xs M Q _ => ∃ x : PV, xs = [x] ∧ Q (.str (Wy.floor.name : String)) M
theorem sp_Floor_name_len : ∀ xs M Q E, sp_Floor_name xs M Q E → xs.length = 1 := fun xs M Q E ⟨_, h, _⟩ => by rw [h]; rfl
theorem ok_Floor_name (T : Tx K mg) : FnQ P w K mg base 1 T.a_Floor_name T.d_Floor_name ["self"] sp_Floor_name := by
  refine okQ T.F_Floor_name sc_Floor_name sp_Floor_name_len (fun cdv A outer s0 H0 E hr => ?_)
  have tk := takes_of (X := cxOf (L2.CX P w) P w K mg base ["self"] "Floor.name" (defScope s_Floor_name) T.a_Floor_name cdv A outer s0 H0 E) (E := E) rfl rfl rfl rfl
  have po := passes_of (X := cxOf (L2.CX P w) P w K mg base ["self"] "Floor.name" (defScope s_Floor_name) T.a_Floor_name cdv A outer s0 H0 E) rfl
  refine ⟨_, (qss_one (qs_ret qe_str)), ?_⟩
  clear tk po
  clear hr
  rintro xs M Q E ⟨x, rfl, k⟩
  walk_at "q"
  exact k

/-! Ceiling_name -/
def sp_Ceiling_name : SpQ := fun xs M Q _ => ∃ x : PV, xs = [x] ∧ Q (.str (Wy.ceiling.name : String)) M
theorem sp_Ceiling_name_len : ∀ xs M Q E, sp_Ceiling_name xs M Q E → xs.length = 1 := fun xs M Q E ⟨_, h, _⟩ => by rw [h]; rfl
theorem ok_Ceiling_name (T : Tx K mg) : FnQ P w K mg base 1 T.a_Ceiling_name T.d_Ceiling_name ["self"] sp_Ceiling_name := by
  refine okQ T.F_Ceiling_name sc_Ceiling_name sp_Ceiling_name_len (fun cdv A outer s0 H0 E hr => ?_)
  have tk := takes_of (X := cxOf (L2.CX P w) P w K mg base ["self"] "Ceiling.name" (defScope s_Ceiling_name) T.a_Ceiling_name cdv A outer s0 H0 E) (E := E) rfl rfl rfl rfl
  have po := passes_of (X := cxOf (L2.CX P w) P w K mg base ["self"] "Ceiling.name" (defScope s_Ceiling_name) T.a_Ceiling_name cdv A outer s0 H0 E) rfl
  refine ⟨_, (qss_one (qs_ret qe_str)), ?_⟩
  clear tk po
  clear hr
  rintro xs M Q E ⟨x, rfl, k⟩
  walk_at "q"
  exact k

/-! HalfUp_name -/
def sp_HalfUp_name : SpQ := fun xs M Q _ => ∃ x : PV, xs = [x] ∧ Q (.str (Wy.halfUp.name : String)) M
theorem sp_HalfUp_name_len : ∀ xs M Q E, sp_HalfUp_name xs M Q E → xs.length = 1 := fun xs M Q E ⟨_, h, _⟩ => by rw [h]; rfl
theorem ok_HalfUp_name (T : Tx K mg) : FnQ P w K mg base 1 T.a_HalfUp_name T.d_HalfUp_name ["self"] sp_HalfUp_name := by
  refine okQ T.F_HalfUp_name sc_HalfUp_name sp_HalfUp_name_len (fun cdv A outer s0 H0 E hr => ?_)
  have tk := takes_of (X := cxOf (L2.CX P w) P w K mg base ["self"] "HalfUp.name" (defScope s_HalfUp_name) T.a_HalfUp_name cdv A outer s0 H0 E) (E := E) rfl rfl rfl rfl
  have po := passes_of (X := cxOf (L2.CX P w) P w K mg base ["self"] "HalfUp.name" (defScope s_HalfUp_name) T.a_HalfUp_name cdv A outer s0 H0 E) rfl
  refine ⟨_, (qss_one (qs_ret qe_str)), ?_⟩
  clear tk po
  clear hr
  rintro xs M Q E ⟨x, rfl, k⟩
  walk_at "q"
  exact k

/-! HalfDown_name -/
def sp_HalfDown_name : SpQ := fun xs M Q _ => ∃ x : PV, xs = [x] ∧ Q (.str (Wy.halfDown.name : String)) M
theorem sp_HalfDown_name_len : ∀ xs M Q E, sp_HalfDown_name xs M Q E → xs.length = 1 := fun xs M Q E ⟨_, h, _⟩ => by rw [h]; rfl
theorem ok_HalfDown_name (T : Tx K mg) : FnQ P w K mg base 1 T.a_HalfDown_name T.d_HalfDown_name ["self"] sp_HalfDown_name := by
  refine okQ T.F_HalfDown_name sc_HalfDown_name sp_HalfDown_name_len (fun cdv A outer s0 H0 E hr => ?_)
  have tk := takes_of (X := cxOf (L2.CX P w) P w K mg base ["self"] "HalfDown.name" (defScope s_HalfDown_name) T.a_HalfDown_name cdv A outer s0 H0 E) (E := E) rfl rfl rfl rfl
  have po := passes_of (X := cxOf (L2.CX P w) P w K mg base ["self"] "HalfDown.name" (defScope s_HalfDown_name) T.a_HalfDown_name cdv A outer s0 H0 E) rfl
  refine ⟨_, (qss_one (qs_ret qe_str)), ?_⟩
  clear tk po
  clear hr
  rintro xs M Q E ⟨x, rfl, k⟩
  walk_at "q"
  exact k

/-! HalfEven_name -/
def sp_HalfEven_name : SpQ := fun xs M Q _ => ∃ x : PV, xs = [x] ∧ Q (.str (Wy.halfEven.name : String)) M
theorem sp_HalfEven_name_len : ∀ xs M Q E, sp_HalfEven_name xs M Q E → xs.length = 1 := fun xs M Q E ⟨_, h, _⟩ => by rw [h]; rfl
theorem ok_HalfEven_name (T : Tx K mg) : FnQ P w K mg base 1 T.a_HalfEven_name T.d_HalfEven_name ["self"] sp_HalfEven_name := by
  refine okQ T.F_HalfEven_name sc_HalfEven_name sp_HalfEven_name_len (fun cdv A outer s0 H0 E hr => ?_)
  have tk := takes_of (X := cxOf (L2.CX P w) P w K mg base ["self"] "HalfEven.name" (defScope s_HalfEven_name) T.a_HalfEven_name cdv A outer s0 H0 E) (E := E) rfl rfl rfl rfl
  have po := passes_of (X := cxOf (L2.CX P w) P w K mg base ["self"] "HalfEven.name" (defScope s_HalfEven_name) T.a_HalfEven_name cdv A outer s0 H0 E) rfl
  refine ⟨_, (qss_one (qs_ret qe_str)), ?_⟩
  clear tk po
  clear hr
  rintro xs M Q E ⟨x, rfl, k⟩
  walk_at "q"
  exact k

/-! FiveUp_name -/
def sp_FiveUp_name : SpQ := fun xs M Q _ => ∃ x : PV, xs = [x] ∧ Q (.str (Wy.fiveUp.name : String)) M
theorem sp_FiveUp_name_len : ∀ xs M Q E, sp_FiveUp_name xs M Q E → xs.length = 1 := fun xs M Q E ⟨_, h, _⟩ => by rw [h]; rfl
theorem ok_FiveUp_name (T : Tx K mg) : FnQ P w K mg base 1 T.a_FiveUp_name T.d_FiveUp_name ["self"] sp_FiveUp_name := by
  refine okQ T.F_FiveUp_name sc_FiveUp_name sp_FiveUp_name_len (fun cdv A outer s0 H0 E hr => ?_)
  have tk := takes_of (X := cxOf (L2.CX P w) P w K mg base ["self"] "FiveUp.name" (defScope s_FiveUp_name) T.a_FiveUp_name cdv A outer s0 H0 E) (E := E) rfl rfl rfl rfl
  have po := passes_of (X := cxOf (L2.CX P w) P w K mg base ["self"] "FiveUp.name" (defScope s_FiveUp_name) T.a_FiveUp_name cdv A outer s0 H0 E) rfl
  refine ⟨_, (qss_one (qs_ret qe_str)), ?_⟩
  clear tk po
  clear hr
  rintro xs M Q E ⟨x, rfl, k⟩
  walk_at "q"
  exact k

/-! half_way -/
def sp_half_way (T : Tx K mg) : SpQ := fun xs M Q _ => ∃ y : Wy, xs = [.str (y.name : String)] ∧ (y = .halfUp ∨ y = .halfDown ∨ y = .halfEven) ∧ Q (wayP T y) M
theorem sp_half_way_len (T : Tx K mg) : ∀ xs M Q E, sp_half_way T xs M Q E → xs.length = 1 := fun xs M Q E ⟨_, h, _⟩ => by rw [h]; rfl
theorem ok_half_way (T : Tx K mg) : FnQ P w K mg base 1 T.a_half_way T.d_half_way ["name"] (sp_half_way T) := by
  refine okQ T.F_half_way sc_half_way (sp_half_way_len T) (fun cdv A outer s0 H0 E hr => ?_)
  have tk := takes_of (X := cxOf (L2.CX P w) P w K mg base ["name"] "half_way" (defScope s_half_way) T.a_half_way cdv A outer s0 H0 E) (E := E) rfl rfl rfl rfl
  have po := passes_of (X := cxOf (L2.CX P w) P w K mg base ["name"] "half_way" (defScope s_half_way) T.a_half_way cdv A outer s0 H0 E) rfl
  refine ⟨_, (qss_cons (qs_if (qt_cmp (oq_eq hr.units) (qv 0) qe_str)
  (qss_one (qs_ret (qe_make00 T.k0_HalfUp T.m_HalfUp)))
  qss_nil)
  (qss_cons (qs_if (qt_cmp (oq_eq hr.units) (qv 0) qe_str)
  (qss_one (qs_ret (qe_make00 T.k0_HalfDown T.m_HalfDown)))
  qss_nil)
  (qss_one (qs_ret (qe_make00 T.k0_HalfEven T.m_HalfEven))))), ?_⟩
  clear tk po
  clear hr
  rintro xs M Q E ⟨y, rfl, h, k⟩
  rcases h with rfl | rfl | rfl <;> simp only [Wy.name] <;> walk_at "q" <;> exact k

/-! way_of -/
def sp_way_of (T : Tx K mg) : SpQ := fun xs M Q _ => ∃ y : Wy, xs = [.str (y.name : String)] ∧ Q (wayP T y) M
theorem sp_way_of_len (T : Tx K mg) : ∀ xs M Q E, sp_way_of T xs M Q E → xs.length = 1 := fun xs M Q E ⟨_, h, _⟩ => by rw [h]; rfl
theorem ok_way_of (T : Tx K mg) : FnQ P w K mg base 2 T.a_way_of T.d_way_of ["name"] (sp_way_of T) := by
  refine okQ T.F_way_of sc_way_of (sp_way_of_len T) (fun cdv A outer s0 H0 E hr => ?_)
  have tk := takes_of (X := cxOf (L2.CX P w) P w K mg base ["name"] "way_of" (defScope s_way_of) T.a_way_of cdv A outer s0 H0 E) (E := E) rfl rfl rfl rfl
  have po := passes_of (X := cxOf (L2.CX P w) P w K mg base ["name"] "way_of" (defScope s_way_of) T.a_way_of cdv A outer s0 H0 E) rfl
  refine ⟨_, (qss_cons (qs_if (qt_w (qw_or (qt_not (qt_val (qe_callB (id := "isinstance") (cq_isiK (K := K) rfl) T.n_isinstance (qa_cons (qv 0) (qa_cons (qe_ty (n := "str") T.n_str) qa_nil))))) (qw_one_or (qt_cmp (oq_notIn hr.units) (qv 0) (qe_gtup (ys := gl_WAYS) T.g_WAYS T.k_WAYS)))))
  (qss_one (qs_raise T.x_BadContext rfl tk T.m_BadContext))
  qss_nil)
  (qss_cons (qs_if (qt_val (qe_startswith (qv 0) qe_str))
  (qss_one (qs_ret (qe_call (ok_half_way T) hr T.m_half_way T.F_half_way.kp T.b_half_way tk (qa_cons (qv 0) qa_nil))))
  qss_nil)
  (qss_cons (qs_if (qt_cmp (oq_eq hr.units) (qv 0) qe_str)
  (qss_one (qs_ret (qe_make00 T.k0_Up T.m_Up)))
  qss_nil)
  (qss_cons (qs_if (qt_cmp (oq_eq hr.units) (qv 0) qe_str)
  (qss_one (qs_ret (qe_make00 T.k0_Floor T.m_Floor)))
  qss_nil)
  (qss_cons (qs_if (qt_cmp (oq_eq hr.units) (qv 0) qe_str)
  (qss_one (qs_ret (qe_make00 T.k0_Ceiling T.m_Ceiling)))
  qss_nil)
  (qss_cons (qs_if (qt_cmp (oq_eq hr.units) (qv 0) qe_str)
  (qss_one (qs_ret (qe_make00 T.k0_FiveUp T.m_FiveUp)))
  qss_nil)
  (qss_one (qs_ret (qe_make00 T.k0_Down T.m_Down))))))))), ?_⟩
  clear tk po
  clear hr
  rintro xs M Q E ⟨y, rfl, k⟩
  have hw := ways_in y
  have hh := half_start y
  cases y <;> simp only [Wy.name, Wy.half] at hw hh ⊢ <;> walk_at "q" <;> rw [hw] <;> walk_at "q" <;> rw [hh] <;> walk_at "q"
  case halfUp => exact ⟨.halfUp, rfl, .inl rfl, k⟩
  case halfDown => exact ⟨.halfDown, rfl, .inr (.inl rfl), k⟩
  case halfEven => exact ⟨.halfEven, rfl, .inr (.inr rfl), k⟩
  all_goals exact k

/-! need -/
def sp_need (T : Tx K mg) : SpQ := fun xs M Q E => ∃ b : Bool, xs = [.bl b] ∧ if b = true then Q .non M else E (.ref T.c_BadContext) none M
theorem sp_need_len (T : Tx K mg) : ∀ xs M Q E, sp_need T xs M Q E → xs.length = 1 := fun xs M Q E ⟨_, h, _⟩ => by rw [h]; rfl
theorem ok_need (T : Tx K mg) : FnQ P w K mg base 1 T.a_need T.d_need ["good"] (sp_need T) := by
  refine okQ T.F_need sc_need (sp_need_len T) (fun cdv A outer s0 H0 E hr => ?_)
  have tk := takes_of (X := cxOf (L2.CX P w) P w K mg base ["good"] "need" (defScope s_need) T.a_need cdv A outer s0 H0 E) (E := E) rfl rfl rfl rfl
  have po := passes_of (X := cxOf (L2.CX P w) P w K mg base ["good"] "need" (defScope s_need) T.a_need cdv A outer s0 H0 E) rfl
  refine ⟨_, (qss_one (qs_if (qt_not (qt_val (qv 0)))
  (qss_one (qs_raise T.x_BadContext rfl tk T.m_BadContext))
  qss_nil)), ?_⟩
  clear tk po
  clear hr
  rintro xs M Q E ⟨b, rfl, k⟩
  walk_at "q"
  cases b
  · walk_at "q"
    exact k
  · walk_at "q"
    exact k

/-! is_signal -/
def sp_is_signal : SpQ := fun xs M Q _ => ∃ s : Str, xs = [.str s] ∧ Q (.bl (decide (s ∈ sigs))) M
theorem sp_is_signal_len : ∀ xs M Q E, sp_is_signal xs M Q E → xs.length = 1 := fun xs M Q E ⟨_, h, _⟩ => by rw [h]; rfl
theorem ok_is_signal (T : Tx K mg) : FnQ P w K mg base 1 T.a_is_signal T.d_is_signal ["thing"] sp_is_signal := by
  refine okQ T.F_is_signal sc_is_signal sp_is_signal_len (fun cdv A outer s0 H0 E hr => ?_)
  have tk := takes_of (X := cxOf (L2.CX P w) P w K mg base ["thing"] "is_signal" (defScope s_is_signal) T.a_is_signal cdv A outer s0 H0 E) (E := E) rfl rfl rfl rfl
  have po := passes_of (X := cxOf (L2.CX P w) P w K mg base ["thing"] "is_signal" (defScope s_is_signal) T.a_is_signal cdv A outer s0 H0 E) rfl
  refine ⟨_, (qss_one (qs_ret (qe_and (qe_callB (id := "isinstance") (cq_isiK (K := K) rfl) T.n_isinstance (qa_cons (qv 0) (qa_cons (qe_ty (n := "str") T.n_str) qa_nil))) (qe_one (qe_cmp (oq_in hr.units) (qv 0) (qe_gtup (ys := gl_SIGNALS) T.g_SIGNALS T.k_SIGNALS)))))), ?_⟩
  clear tk po
  clear hr
  rintro xs M Q E ⟨s, rfl, k⟩
  walk_at "q"
  rw [gl_sigs, inPs_s]
  walk_at "q"
  exact k

/-! Context___init__ -/
theorem name_md (T : Tx K mg) (y : Wy) {M : Mem} {R : Box (SpQ → Prop)} (q : ∀ z : SpQ, (∀ {M : Mem} {Q : TQ.PK} {E : EK}, Q (.str (Str.ofString y.name)) M → z [wayP T y] M Q E) → R.v z) : @mdB [(T.c_Down, sp_Way_name), (T.c_Up, sp_Up_name), (T.c_Floor, sp_Floor_name), (T.c_Ceiling, sp_Ceiling_name), (T.c_HalfUp, sp_HalfUp_name), (T.c_HalfDown, sp_HalfDown_name), (T.c_HalfEven, sp_HalfEven_name), (T.c_FiveUp, sp_FiveUp_name)] "name" (wayP T y) M R := by
    cases y
    · exact mdB_of (C := T.c_Down) (s := sp_Way_name) (by simp) rfl (by simp) (q _ (fun k => ⟨_, rfl, k⟩))
    · exact mdB_of (C := T.c_Up) (s := sp_Up_name) (by simp) rfl (by simp) (q _ (fun k => ⟨_, rfl, k⟩))
    · exact mdB_of (C := T.c_Floor) (s := sp_Floor_name) (by simp) rfl (by simp) (q _ (fun k => ⟨_, rfl, k⟩))
    · exact mdB_of (C := T.c_Ceiling) (s := sp_Ceiling_name) (by simp) rfl (by simp) (q _ (fun k => ⟨_, rfl, k⟩))
    · exact mdB_of (C := T.c_HalfUp) (s := sp_HalfUp_name) (by simp) rfl (by simp) (q _ (fun k => ⟨_, rfl, k⟩))
    · exact mdB_of (C := T.c_HalfDown) (s := sp_HalfDown_name) (by simp) rfl (by simp) (q _ (fun k => ⟨_, rfl, k⟩))
    · exact mdB_of (C := T.c_HalfEven) (s := sp_HalfEven_name) (by simp) rfl (by simp) (q _ (fun k => ⟨_, rfl, k⟩))
    · exact mdB_of (C := T.c_FiveUp) (s := sp_FiveUp_name) (by simp) rfl (by simp) (q _ (fun k => ⟨_, rfl, k⟩))
def sp_Context___init__ (T : Tx K mg) : SpQ := fun xs M Q _ => ∃ (a : Addr) (y : Wy) (r l m : Int), (xs = [.ref a, .int r, .str (Str.ofString y.name), .int l, .int m] ∨ (xs = [.ref a, .int r, .str (Str.ofString y.name), .non, .int m] ∧ l = -60)) ∧ M a = some (.ins T.c_Context [] []) ∧ (1 ≤ r ∧ r ≤ 24) ∧ (-60 ≤ l ∧ l ≤ 0) ∧ (0 ≤ m ∧ m ≤ 60) ∧
  ∀ d1 d2 M', (∀ b, b ≠ a → M b ≠ none → M' b = M b) → M d1 = none → M d2 = none → Ctx T M' a d1 d2 y r l m [] [] → Q .non M'
theorem sp_Context___init___len (T : Tx K mg) : ∀ xs M Q E, sp_Context___init__ T xs M Q E → xs.length = 5 := fun xs M Q E ⟨_, _, _, _, _, h, _⟩ => by
  rcases h with h | h
  · rw [h]; rfl
  · rw [h.1]; rfl
theorem ok_Context___init__ (T : Tx K mg) : FnQ P w K mg base 3 T.a_Context___init__ T.d_Context___init__ ["self", "room", "way", "least", "most"] (sp_Context___init__ T) := by
  refine okQD T.F_Context___init__ sc_Context___init__ (sp_Context___init___len T) (fun cdv A outer s0 H0 E hr => ?_)
  have tk := takes_of (X := cxOf (L2.CX P w) P w K mg base ["self", "room", "way", "least", "most"] "Context.__init__" (defScope s_Context___init__) T.a_Context___init__ cdv A outer s0 H0 E) (E := E) rfl rfl rfl rfl
  have po := passes_of (X := cxOf (L2.CX P w) P w K mg base ["self", "room", "way", "least", "most"] "Context.__init__" (defScope s_Context___init__) T.a_Context___init__ cdv A outer s0 H0 E) rfl
  refine ⟨_, (qss_cons (qs_if (qt_cmp oq_isN (qv 3) qe_non)
  (qss_one (qs_set 3 sc_Context___init__.nd (qe_bin oq_sub qe_int (qe_gint T.g_MOST_LEAD))))
  qss_nil)
  (qss_cons (qs_expr (qe_call (ok_need T) (hr.mono (by decide)) T.m_need T.F_need.kp T.b_need tk (qa_cons (qe_call (ok_is_whole T) (hr.mono (by decide)) T.m_is_whole T.F_is_whole.kp T.b_is_whole tk (qa_cons (qv 1) (qa_cons qe_int (qa_cons (qe_gint T.g_MOST_ROOM) qa_nil)))) qa_nil)))
  (qss_cons (qs_fld (K := K) rfl (qv 0) (qe_methD0 (qe_call (ok_way_of T) hr T.m_way_of T.F_way_of.kp T.b_way_of tk (qa_cons (qv 2) qa_nil)) (mok_cons T.i_Down.cl T.M_Down_name (ok_Way_name T) (hr.mono (by decide)) T.b_Way_name (mok_cons T.i_Up.cl T.M_Up_name (ok_Up_name T) (hr.mono (by decide)) T.b_Up_name (mok_cons T.i_Floor.cl T.M_Floor_name (ok_Floor_name T) (hr.mono (by decide)) T.b_Floor_name (mok_cons T.i_Ceiling.cl T.M_Ceiling_name (ok_Ceiling_name T) (hr.mono (by decide)) T.b_Ceiling_name (mok_cons T.i_HalfUp.cl T.M_HalfUp_name (ok_HalfUp_name T) (hr.mono (by decide)) T.b_HalfUp_name (mok_cons T.i_HalfDown.cl T.M_HalfDown_name (ok_HalfDown_name T) (hr.mono (by decide)) T.b_HalfDown_name (mok_cons T.i_HalfEven.cl T.M_HalfEven_name (ok_HalfEven_name T) (hr.mono (by decide)) T.b_HalfEven_name (mok_cons T.i_FiveUp.cl T.M_FiveUp_name (ok_FiveUp_name T) (hr.mono (by decide)) T.b_FiveUp_name mok_nil)))))))) tk))
  (qss_cons (qs_expr (qe_call (ok_need T) (hr.mono (by decide)) T.m_need T.F_need.kp T.b_need tk (qa_cons (qe_and (qe_call (ok_is_whole T) (hr.mono (by decide)) T.m_is_whole T.F_is_whole.kp T.b_is_whole tk (qa_cons (qv 3) (qa_cons (qe_neg (qe_gint T.g_MOST_LEAD)) (qa_cons qe_int qa_nil)))) (qe_one (qe_call (ok_is_whole T) (hr.mono (by decide)) T.m_is_whole T.F_is_whole.kp T.b_is_whole tk (qa_cons (qv 4) (qa_cons qe_int (qa_cons (qe_gint T.g_MOST_LEAD) qa_nil)))))) qa_nil)))
  (qss_cons (qs_fld (K := K) rfl (qv 0) (qv 1))
  (qss_cons (qs_fld (K := K) rfl (qv 0) (qv 3))
  (qss_cons (qs_fld (K := K) rfl (qv 0) (qv 4))
  (qss_cons (qs_fld (K := K) rfl (qv 0) qe_dict0)
  (qss_one (qs_fld (K := K) rfl (qv 0) qe_dict0)))))))))), ?_⟩
  clear tk po
  clear hr
  rintro xs M Q E ⟨a, y, r, l, m, hx, ha, hr, hl, hm, k⟩
  rcases hx with rfl | ⟨rfl, rfl⟩
  all_goals
    walk_at "q"
    try rw [show (0 : Int) - 60 = -60 from rfl]
    refine ⟨_, _, _, rfl, ?_⟩
    walk_at "q"
    rw [decide_eq_true hr]
    refine ⟨_, rfl, ?_⟩
    rw [if_pos rfl]
    walk_at "q"
    refine ⟨y, rfl, ?_⟩
    walk_at "q"
    refine name_md T y (fun z hz => ?_)
    walk_at "q"
    refine hz ?_
    walk_at "q"
    refine sto_ins ha T.i_Context.cl T.no_Context_manner rfl (by decide) ?_
    walk_at "q"
    refine ⟨_, _, _, rfl, ?_⟩
    walk_at "q"
    try
      refine iteP_t hl ?_
      walk_at "q"
    refine ⟨_, _, _, rfl, ?_⟩
    walk_at "q"
    rw [decide_eq_true hm]
    refine ⟨_, rfl, ?_⟩
    rw [if_pos rfl]
    walk_at "q"
    refine sto_ins mset_same T.i_Context.cl T.no_Context_room rfl (by decide) ?_
    walk_at "q"
    refine sto_ins mset_same T.i_Context.cl T.no_Context_least rfl (by decide) ?_
    walk_at "q"
    refine sto_ins mset_same T.i_Context.cl T.no_Context_most rfl (by decide) ?_
    walk_at "q"
    refine dicB_of fun p hp => ?_
    have ap : a ≠ p := by rintro rfl; rw [mset_same] at hp; cases hp
    have hp0 : M p = none := by rw [mset_ne ap.symm] at hp; exact hp
    walk_at "q"
    refine sto_ins ((mset_ne ap).trans mset_same) T.i_Context.cl T.no_Context_standing rfl (by decide) ?_
    walk_at "q"
    refine dicB_of fun q hq => ?_
    have aq : a ≠ q := by rintro rfl; rw [mset_same] at hq; cases hq
    have hq1 := hq
    rw [mset_ne aq.symm] at hq
    have pq : p ≠ q := by rintro rfl; rw [mset_same] at hq; cases hq
    have hq0 : M q = none := by rw [mset_ne pq.symm, mset_ne aq.symm] at hq; exact hq
    walk_at "q"
    refine sto_ins ((mset_ne aq).trans mset_same) T.i_Context.cl T.no_Context_caught rfl (by decide) ?_
    walk_at "q"
    refine k p q _ (fun b hb hn => ?_) hp0 hq0 ⟨?_, ⟨[], ?_⟩, ⟨[], ?_⟩, pq, List.nodup_nil, by decide, hr, hl, hm⟩
    · have bp : b ≠ p := by rintro rfl; exact hn hp0
      have bq : b ≠ q := by rintro rfl; exact hn hq0
      simp only [mset_ne hb, mset_ne bp, mset_ne bq]
    · rw [mset_same]
      simp (decide := true) [putN, putX]
    · rw [mset_ne ap.symm, mset_ne pq, mset_ne ap.symm, mset_same]
      rfl
    · rw [mset_ne aq.symm, mset_same]
      rfl

/-! Context_lowest -/
def sp_Context_lowest (T : Tx K mg) : SpQ := fun xs M Q _ => ∃ (a d1 d2 : Addr) (y : Wy) (r l m : Int) (F C : List Str), xs = [.ref a] ∧ Ctx T M a d1 d2 y r l m F C ∧ Q (.int (l - r + 1)) M
theorem sp_Context_lowest_len (T : Tx K mg) : ∀ xs M Q E, sp_Context_lowest T xs M Q E → xs.length = 1 := fun xs M Q E ⟨_, _, _, _, _, _, _, _, _, h, _⟩ => by rw [h]; rfl
theorem ok_Context_lowest (T : Tx K mg) : FnQ P w K mg base 1 T.a_Context_lowest T.d_Context_lowest ["self"] (sp_Context_lowest T) := by
  refine okQ T.F_Context_lowest sc_Context_lowest (sp_Context_lowest_len T) (fun cdv A outer s0 H0 E hr => ?_)
  have tk := takes_of (X := cxOf (L2.CX P w) P w K mg base ["self"] "Context.lowest" (defScope s_Context_lowest) T.a_Context_lowest cdv A outer s0 H0 E) (E := E) rfl rfl rfl rfl
  have po := passes_of (X := cxOf (L2.CX P w) P w K mg base ["self"] "Context.lowest" (defScope s_Context_lowest) T.a_Context_lowest cdv A outer s0 H0 E) rfl
  refine ⟨_, (qss_one (qs_ret (qe_bin oq_add (qe_bin oq_sub (qe_fldK (K := K) rfl (qv 0)) (qe_fldK (K := K) rfl (qv 0))) qe_int))), ?_⟩
  clear tk po
  clear hr
  rintro xs M Q E ⟨a, d1, d2, y, r, l, m, F, C, rfl, c, k⟩
  walk_at "q"
  rw [fldw_Context_least T c.self]
  walk_at "q"
  rw [fldw_Context_room T c.self]
  walk_at "q"
  exact k

/-! Context_flags -/
def sp_Context_flags (T : Tx K mg) : SpQ := fun xs M Q _ => ∃ (a d1 d2 : Addr) (y : Wy) (r l m : Int) (F C : List Str), xs = [.ref a] ∧ Ctx T M a d1 d2 y r l m F C ∧ Q (.lst ((flagsOf F).map PV.str)) M
theorem sp_Context_flags_len (T : Tx K mg) : ∀ xs M Q E, sp_Context_flags T xs M Q E → xs.length = 1 := fun xs M Q E ⟨_, _, _, _, _, _, _, _, _, h, _⟩ => by rw [h]; rfl
theorem ok_Context_flags (T : Tx K mg) : FnQ P w K mg base 1 T.a_Context_flags T.d_Context_flags ["self"] (sp_Context_flags T) := by
  refine okQ T.F_Context_flags sc_Context_flags (sp_Context_flags_len T) (fun cdv A outer s0 H0 E hr => ?_)
  have tk := takes_of (X := cxOf (L2.CX P w) P w K mg base ["self", "name"] "Context.flags" (defScope s_Context_flags) T.a_Context_flags cdv A outer s0 H0 E) (E := E) rfl rfl rfl rfl
  have po := passes_of (X := cxOf (L2.CX P w) P w K mg base ["self", "name"] "Context.flags" (defScope s_Context_flags) T.a_Context_flags cdv A outer s0 H0 E) rfl
  refine ⟨_, (qss_one (qs_ret (qe_lcT (own := [("name", 1)]) (j := 1) rfl sc_Context_flags.nd (qe_gtup (ys := gl_SIGNALS) T.g_SIGNALS T.k_SIGNALS) (by decide) (blkOk_by (own := [("name", 1)]) (N := ["self", "name"]) (sc := defScope s_Context_flags) (by decide +kernel)) (fun _ _ _ _ _ => pg_name (i := 1) sc_Context_flags.nd rfl (Or.inl rfl)) (fun _ _ _ _ _ => (qts_one (qt_cmp (oq_in hr.units) (qv 1) (qe_fldK (K := K) rfl (qv 0))))) (fun _ _ _ _ _ => (qv 1))))), ?_⟩
  clear tk po
  clear hr
  rintro xs M Q E ⟨a, d1, d2, y, r, l, m, F, C, rfl, c, k⟩
  walk_at "q"
  refine lcT_of (keepS F) (by decide) (fun x hx M2 hM2 => ?_) ?_
  · rw [gl_sigs] at hx
    obtain ⟨s, _, rfl⟩ := List.mem_map.mp hx
    have c2 := c.ext hM2
    obtain ⟨vs, h1⟩ := c2.fl
    walk_at "q"
    rw [fldw_Context_standing T c2.self]
    walk_at "q"
    rw [inP_rd h1, show (keyP (.str s)).map (fun k => memK k (F.map sk)) = some (decide (s ∈ F)) from congrArg some (sk_mem s F)]
    walk_at "q"
    refine iteP_of (fun h => ?_) (fun h => ?_)
    · walk_at "q"
      exact if_pos h
    · walk_at "q"
      exact if_neg h
  · walk_at "q"
    rw [gl_sigs, keepS_map]
    exact k

/-! Context_trap -/
def sgP : PV → Option PV
  | .str s => some (.bl (decide (s ∈ sigs)))
  | _ => none
def prP : PV → Option PV
  | .str s => some (.tup [.str s, .bl true])
  | _ => none
theorem mg_sk : ∀ (N F : List Str) (us : List PV), (mgP (F.map sk) us (N.map fun n => (sk n, PV.bl true))).1 = (raiseF F N).map sk
  | [], F, us => rfl
  | n :: N, F, us => by
    rw [List.map_cons]
    show (mgP (putN (sk n) (F.map sk)) _ (N.map fun n => (sk n, PV.bl true))).1 = _
    rw [sk_put]
    exact mg_sk N _ _
theorem bls_map : ∀ bs : List Bool, bls (bs.map PV.bl) = some bs
  | [] => rfl
  | b :: bs => by
    rw [List.map_cons]
    show (bls (bs.map PV.bl)).map (b :: ·) = _
    rw [bls_map bs]
    rfl
theorem all_lst {bs : List Bool} {M : Mem} {Q : TQ.PK} (q : Q (.bl (bs.all id)) M) : cAll [.lst (bs.map PV.bl)] M Q := ⟨bs, bls_map bs, q⟩
def sp_Context_trap (T : Tx K mg) : SpQ := fun xs M Q _ => ∃ (a d1 d2 : Addr) (y : Wy) (r l m : Int) (F C N : List Str), xs = [.ref a, .lst (N.map PV.str)] ∧ Ctx T M a d1 d2 y r l m F C ∧ ((∀ n ∈ N, n ∈ sigs) ∧ N.length ≤ 100) ∧
  ∀ q M', M q = none → (∀ b, b ≠ a → M b ≠ none → M' b = M b) → Ctx T M' a d1 q y r l m F (raiseF [] N) → Q .non M'
theorem sp_Context_trap_len (T : Tx K mg) : ∀ xs M Q E, sp_Context_trap T xs M Q E → xs.length = 2 := fun xs M Q E ⟨_, _, _, _, _, _, _, _, _, _, h, _⟩ => by rw [h]; rfl
theorem ok_Context_trap (T : Tx K mg) : FnQ P w K mg base 2 T.a_Context_trap T.d_Context_trap ["self", "names"] (sp_Context_trap T) := by
  refine okQ T.F_Context_trap sc_Context_trap (sp_Context_trap_len T) (fun cdv A outer s0 H0 E hr => ?_)
  have tk := takes_of (X := cxOf (L2.CX P w) P w K mg base ["self", "names", "name"] "Context.trap" (defScope s_Context_trap) T.a_Context_trap cdv A outer s0 H0 E) (E := E) rfl rfl rfl rfl
  have po := passes_of (X := cxOf (L2.CX P w) P w K mg base ["self", "names", "name"] "Context.trap" (defScope s_Context_trap) T.a_Context_trap cdv A outer s0 H0 E) rfl
  refine ⟨_, (qss_cons (qs_expr (qe_call (ok_need T) hr T.m_need T.F_need.kp T.b_need tk (qa_cons (qe_and (qe_callB (id := "isinstance") (cq_isiK (K := K) rfl) T.n_isinstance (qa_cons (qv 1) (qa_cons (qe_ty (n := "list") T.n_list) qa_nil))) (qe_one (qe_callB (id := "all") (cq_all rfl) T.n_all (qa_cons (qe_lcL (own := [("name", 2)]) (j := 2) rfl sc_Context_trap.nd (qv 1) (by decide) (blkOk_by (own := [("name", 2)]) (N := ["self", "names", "name"]) (sc := defScope s_Context_trap) (by decide +kernel)) (fun _ _ _ _ _ => pg_name (i := 2) sc_Context_trap.nd rfl (Or.inl rfl)) (fun _ _ _ _ _ => qts_nil) (fun _ _ _ _ _ => (qe_call (ok_is_signal T) hr T.m_is_signal T.F_is_signal.kp T.b_is_signal takes0 (qa_cons (qv 2) qa_nil)))) qa_nil)))) qa_nil)))
  (qss_one (qs_fld (K := K) rfl (qv 0) (qe_callT (T := "dict") (cq_dict rfl) T.n_dict (qa_cons (qe_lcL (own := [("name", 2)]) (j := 2) rfl sc_Context_trap.nd (qv 1) (by decide) (blkOk_by (own := [("name", 2)]) (N := ["self", "names", "name"]) (sc := defScope s_Context_trap) (by decide +kernel)) (fun _ _ _ _ _ => pg_name (i := 2) sc_Context_trap.nd rfl (Or.inl rfl)) (fun _ _ _ _ _ => qts_nil) (fun _ _ _ _ _ => (qe_tup (qa_cons (qv 2) (qa_cons qe_bl qa_nil))))) qa_nil))))), ?_⟩
  clear tk po
  clear hr
  rintro xs M Q E ⟨a, d1, d2, y, r, l, m, F, C, N, rfl, c, ⟨hN, hl⟩, k⟩
  walk_at "q"
  refine lcL_of sgP (by rw [List.length_map]; omega) (fun x hx M2 hM2 => ?_) ?_
  · obtain ⟨s, _, rfl⟩ := List.mem_map.mp hx
    walk_at "q"
    refine ⟨s, rfl, ?_⟩
    walk_at "q"
    rfl
  have e1 : (N.map PV.str).filterMap sgP = (N.map fun n => decide (n ∈ sigs)).map PV.bl := by
    rw [List.filterMap_map, List.map_map, ← List.filterMap_eq_map]
    rfl
  rw [e1]
  walk_at "q"
  refine all_lst ?_
  rw [show (N.map fun n => decide (n ∈ sigs)).all id = true from by rw [List.all_map, List.all_eq_true]; exact fun x hx => decide_eq_true (hN x hx)]
  refine ⟨true, rfl, ?_⟩
  rw [if_pos rfl]
  walk_at "q"
  refine lcL_of prP (by rw [List.length_map]; omega) (fun x hx M2 hM2 => ?_) ?_
  · obtain ⟨s, _, rfl⟩ := List.mem_map.mp hx
    walk_at "q"
    rfl
  have e2 : (N.map PV.str).filterMap prP = (N.map fun n => (sk n, PV.bl true)).map pairP := by
    rw [List.filterMap_map, List.map_map, ← List.filterMap_eq_map]
    rfl
  rw [e2]
  walk_at "q"
  refine dict_of (N.map fun n => (sk n, PV.bl true)) rfl (fun q hq => ?_)
  walk_at "q"
  have cq : Ctx T (mset M q (.dic (mgP [] [] (N.map fun n => (sk n, PV.bl true))).1 (mgP [] [] (N.map fun n => (sk n, PV.bl true))).2)) a d1 d2 y r l m F C := c.ext (mext_set hq)
  have ap : a ≠ q := by rintro rfl; rw [c.self] at hq; cases hq
  refine sto_ins cq.self T.i_Context.cl T.no_Context_caught rfl (by decide) ?_
  walk_at "q"
  obtain ⟨ws, h1⟩ := c.fl
  have d1q : d1 ≠ q := by rintro rfl; rw [h1] at hq; cases hq
  have em : (mgP [] [] (N.map fun n => (sk n, PV.bl true))).1 = (raiseF [] N).map sk := mg_sk N [] []
  refine k q _ hq (fun b hb hn => ?_) ⟨by rw [mset_same]; rfl, ⟨ws, by rw [mset_ne c.ne1.symm, mset_ne d1q]; exact h1⟩, ⟨_, by rw [mset_ne ap.symm, mset_same, em]⟩, d1q, c.nf, c.lf, c.room, c.least, c.most⟩
  rw [mset_ne hb, mset_ne (by rintro rfl; exact hn hq)]

/-! Context_traps -/
def sp_Context_traps (T : Tx K mg) : SpQ := fun xs M Q _ => ∃ (a d1 d2 : Addr) (y : Wy) (r l m : Int) (F C : List Str), xs = [.ref a] ∧ Ctx T M a d1 d2 y r l m F C ∧ Q (.lst ((flagsOf C).map PV.str)) M
theorem sp_Context_traps_len (T : Tx K mg) : ∀ xs M Q E, sp_Context_traps T xs M Q E → xs.length = 1 := fun xs M Q E ⟨_, _, _, _, _, _, _, _, _, h, _⟩ => by rw [h]; rfl
theorem ok_Context_traps (T : Tx K mg) : FnQ P w K mg base 1 T.a_Context_traps T.d_Context_traps ["self"] (sp_Context_traps T) := by
  refine okQ T.F_Context_traps sc_Context_traps (sp_Context_traps_len T) (fun cdv A outer s0 H0 E hr => ?_)
  have tk := takes_of (X := cxOf (L2.CX P w) P w K mg base ["self", "name"] "Context.traps" (defScope s_Context_traps) T.a_Context_traps cdv A outer s0 H0 E) (E := E) rfl rfl rfl rfl
  have po := passes_of (X := cxOf (L2.CX P w) P w K mg base ["self", "name"] "Context.traps" (defScope s_Context_traps) T.a_Context_traps cdv A outer s0 H0 E) rfl
  refine ⟨_, (qss_one (qs_ret (qe_lcT (own := [("name", 1)]) (j := 1) rfl sc_Context_traps.nd (qe_gtup (ys := gl_SIGNALS) T.g_SIGNALS T.k_SIGNALS) (by decide) (blkOk_by (own := [("name", 1)]) (N := ["self", "name"]) (sc := defScope s_Context_traps) (by decide +kernel)) (fun _ _ _ _ _ => pg_name (i := 1) sc_Context_traps.nd rfl (Or.inl rfl)) (fun _ _ _ _ _ => (qts_one (qt_cmp (oq_in hr.units) (qv 1) (qe_fldK (K := K) rfl (qv 0))))) (fun _ _ _ _ _ => (qv 1))))), ?_⟩
  clear tk po
  clear hr
  rintro xs M Q E ⟨a, d1, d2, y, r, l, m, F, C, rfl, c, k⟩
  walk_at "q"
  refine lcT_of (keepS C) (by decide) (fun x hx M2 hM2 => ?_) ?_
  · rw [gl_sigs] at hx
    obtain ⟨s, _, rfl⟩ := List.mem_map.mp hx
    have c2 := c.ext hM2
    obtain ⟨vs, h1⟩ := c2.ca
    walk_at "q"
    rw [fldw_Context_caught T c2.self]
    walk_at "q"
    rw [inP_rd h1, show (keyP (.str s)).map (fun k => memK k (C.map sk)) = some (decide (s ∈ C)) from congrArg some (sk_mem s C)]
    walk_at "q"
    refine iteP_of (fun h => ?_) (fun h => ?_)
    · walk_at "q"
      exact if_pos h
    · walk_at "q"
      exact if_neg h
  · walk_at "q"
    rw [gl_sigs, keepS_map]
    exact k

/-! Context_raised -/
def sp_Context_raised (T : Tx K mg) : SpQ := fun xs M Q E => ∃ (a d1 d2 : Addr) (y : Wy) (r l m : Int) (F C N : List Str), xs = [.ref a, .lst (N.map PV.str)] ∧ Ctx T M a d1 d2 y r l m F C ∧ F.length + N.length ≤ 1000 ∧
  ∀ M', (∀ b, b ≠ d1 → M' b = M b) → Ctx T M' a d1 d2 y r l m (raiseF F N) C → TrapQ N C (Q .non M') fun n => E (.ref T.c_Trapped) (some (.str n)) M'
theorem sp_Context_raised_len (T : Tx K mg) : ∀ xs M Q E, sp_Context_raised T xs M Q E → xs.length = 2 := fun xs M Q E ⟨_, _, _, _, _, _, _, _, _, _, h, _⟩ => by rw [h]; rfl
theorem ok_Context_raised (T : Tx K mg) : FnQ P w K mg base 2 T.a_Context_raised T.d_Context_raised ["self", "names"] (sp_Context_raised T) := by
  refine okQ T.F_Context_raised sc_Context_raised (sp_Context_raised_len T) (fun cdv A outer s0 H0 E hr => ?_)
  have tk := takes_of (X := cxOf (L2.CX P w) P w K mg base ["self", "names", "name"] "Context.raised" (defScope s_Context_raised) T.a_Context_raised cdv A outer s0 H0 E) (E := E) rfl rfl rfl rfl
  have po := passes_of (X := cxOf (L2.CX P w) P w K mg base ["self", "names", "name"] "Context.raised" (defScope s_Context_raised) T.a_Context_raised cdv A outer s0 H0 E) rfl
  refine ⟨_, (qss_cons (qs_forL po rfl (qv 1) (qg_name (i := 2) sc_Context_raised.nd)
  (qss_one (qs_dput (hu1 hr) (qe_fldK (K := K) rfl (qv 0)) (qv 2) qe_bl)))
  (qss_one (qs_forT po rfl (qe_gtup (ys := gl_SIGNALS) T.g_SIGNALS T.k_SIGNALS) (qg_name (i := 2) sc_Context_raised.nd)
  (qss_one (qs_if (qt_w (qw_and (qt_cmp (oq_in hr.units) (qv 2) (qv 1)) (qw_one_and (qt_cmp (oq_in hr.units) (qv 2) (qe_fldK (K := K) rfl (qv 0))))))
  (qss_one (qs_trap rfl T.trap hr tk (qa_cons (qv 2) qa_nil)))
  qss_nil))))), ?_⟩
  clear tk po
  clear hr
  rintro xs M Q E ⟨a, d1, d2, y, r, l, m, F, C, N, rfl, c, hl, k⟩
  walk_at "q"
  refine forI_of (fun i env M' => ∃ o : Option PV, env = [some (.ref a), some (.lst (N.map PV.str)), o] ∧ (∀ b, b ≠ d1 → M' b = M b) ∧ Ctx T M' a d1 d2 y r l m (raiseF F (N.take i)) C) ⟨none, rfl, fun _ _ => rfl, c⟩ (fun _ _ _ _ _ => trivial) ?_ ?_
  · rintro i x env M' hi hx ⟨o, rfl, hM, c'⟩
    rw [List.getElem?_map] at hx
    cases hn : N[i]? with
    | none => rw [hn] at hx; cases hx
    | some n =>
      rw [hn] at hx
      cases hx
      walk_at "q"
      rw [fldw_Context_standing T c'.self]
      walk_at "q"
      obtain ⟨vs, h1⟩ := c'.fl
      have ll := c'.lf
      have hll : (putN n (raiseF F (N.take i))).length ≤ 1000 := by
        rw [← raise_next hn]
        refine Nat.le_trans raise_length ?_
        have := List.length_take_le (i + 1) N
        have := List.length_take_le' (i + 1) N
        omega
      refine put_dic h1 rfl (sk_nodup c'.nf) (len_lt' (by rw [List.length_map]; exact ll)) ?_
      walk_at "q"
      refine ⟨_, rfl, fun b hb => by rw [mset_ne hb]; exact hM b hb, ?_⟩
      rw [raise_next hn]
      exact c'.flag .non hll
  · rintro env M' ⟨o, rfl, hM, c'⟩
    rw [List.length_map, List.take_length] at c'
    walk_at "q"
    have k := k _ hM c'
    refine forI_of (fun i env M2 => (M2 = M' ∧ ∃ o : Option PV, env = [some (.ref a), some (.lst (N.map PV.str)), o]) ∧ ∀ n ∈ sigs.take i, ¬ (n ∈ N ∧ n ∈ C)) ⟨⟨rfl, o, rfl⟩, fun n hn => nomatch hn⟩ (fun _ _ _ _ _ => trivial) ?_ ?_
    · rintro i x env M2 hi hx ⟨⟨rfl, o, rfl⟩, hno⟩
      rw [gl_sigs, List.getElem?_map] at hx
      cases hn : sigs[i]? with
      | none => rw [hn] at hx; cases hx
      | some n =>
        rw [hn] at hx
        cases hx
        have next : ¬ (n ∈ N ∧ n ∈ C) → ∀ z ∈ sigs.take (i + 1), ¬ (z ∈ N ∧ z ∈ C) := fun hz z hq => by
          rw [List.take_add_one, hn, List.mem_append] at hq
          rcases hq with hq | hq
          · exact hno z hq
          · have : z = n := by simpa using hq
            rw [this]; exact hz
        walk_at "q"
        rw [inPs_s]
        walk_at "q"
        refine iteP_of (fun h => ?_) (fun h => ?_)
        · walk_at "q"
          rw [fldw_Context_caught T c'.self]
          walk_at "q"
          obtain ⟨ws, h2⟩ := c'.ca
          rw [inP_rd h2, show (keyP (.str n)).map (fun k => memK k (C.map sk)) = some (decide (n ∈ C)) from congrArg some (sk_mem n C)]
          walk_at "q"
          refine iteP_of (fun h3 => ?_) (fun h3 => ?_)
          · have e : firstT N C = some n := by
              have hs : sigs = sigs.take i ++ n :: sigs.drop (i + 1) := by
                have hlt : i < sigs.length := by
                  rcases Nat.lt_or_ge i sigs.length with z | z
                  · exact z
                  · rw [List.getElem?_eq_none z] at hn; cases hn
                have hg : sigs[i] = n := by rw [List.getElem?_eq_getElem hlt] at hn; exact Option.some.inj hn
                rw [← hg, ← List.drop_eq_getElem_cons hlt, List.take_append_drop]
              unfold firstT
              rw [hs, List.filter_append, List.filter_eq_nil_iff.mpr (fun z hz => by simpa using hno z hz), List.nil_append, List.filter_cons_of_pos (by simpa using ⟨h, h3⟩)]
              rfl
            unfold TrapQ at k
            rw [e] at k
            walk_at "q"
            exact k
          · walk_at "q"
            exact ⟨⟨_, rfl⟩, next fun z => h3 z.2⟩
        · walk_at "q"
          exact ⟨⟨_, rfl⟩, next fun z => h z.1⟩
    · rintro env M2 ⟨⟨rfl, o, rfl⟩, hno⟩
      have e : firstT N C = none := by
        unfold firstT
        rw [List.filter_eq_nil_iff.mpr (fun n hn => by simpa using hno n (by show n ∈ sigs; exact hn))]
        rfl
      unfold TrapQ at k
      rw [e] at k
      walk_at "q"
      exact k

/-! greatest_of -/
def sp_greatest_of (T : Tx K mg) : SpQ := fun xs M Q _ => ∃ (a d1 d2 : Addr) (y : Wy) (r l m : Int) (F C : List Str) (s : Int), xs = [.ref a, .int s] ∧ Ctx T M a d1 d2 y r l m F C ∧ (0 ≤ s ∧ s ≤ 1) ∧ Q ((greN r m s).pv T.c_Number) M
theorem sp_greatest_of_len (T : Tx K mg) : ∀ xs M Q E, sp_greatest_of T xs M Q E → xs.length = 2 := fun xs M Q E ⟨_, _, _, _, _, _, _, _, _, _, h, _⟩ => by rw [h]; rfl
theorem ok_greatest_of (T : Tx K mg) : FnQ P w K mg base 4 T.a_greatest_of T.d_greatest_of ["context", "sign"] (sp_greatest_of T) := by
  refine okQ T.F_greatest_of sc_greatest_of (sp_greatest_of_len T) (fun cdv A outer s0 H0 E hr => ?_)
  have tk := takes_of (X := cxOf (L2.CX P w) P w K mg base ["context", "sign"] "greatest_of" (defScope s_greatest_of) T.a_greatest_of cdv A outer s0 H0 E) (E := E) rfl rfl rfl rfl
  have po := passes_of (X := cxOf (L2.CX P w) P w K mg base ["context", "sign"] "greatest_of" (defScope s_greatest_of) T.a_greatest_of cdv A outer s0 H0 E) rfl
  refine ⟨_, (qss_one (qs_ret (qe_call (ok_plain T) hr T.m_plain T.F_plain.kp T.b_plain tk (qa_cons (qv 1) (qa_cons (qe_bin oq_sub (qe_call (ok_ten_to T) (hr.mono (by decide)) T.m_ten_to T.F_ten_to.kp T.b_ten_to tk (qa_cons (qe_fldK (K := K) rfl (qv 0)) qa_nil)) qe_int) (qa_cons (qe_bin oq_add (qe_bin oq_sub (qe_fldK (K := K) rfl (qv 0)) (qe_fldK (K := K) rfl (qv 0))) qe_int) qa_nil)))))), ?_⟩
  clear tk po
  clear hr
  rintro xs M Q E ⟨a, d1, d2, y, r, l, m, F, C, s, rfl, c, hs, k⟩
  walk_at "q"
  rw [fldw_Context_room T c.self]
  walk_at "q"
  have hr := c.room
  have hm := c.most
  refine ⟨r, rfl, by omega, ?_⟩
  walk_at "q"
  rw [fldw_Context_most T c.self]
  walk_at "q"
  rw [fldw_Context_room T c.self]
  walk_at "q"
  have h24 : 10 ^ r.toNat ≤ 10 ^ 24 := pow10_le (by omega)
  have h1 := ten_pos r.toNat
  refine ⟨_, _, _, rfl, ?_⟩
  rw [if_pos (show okP s _ _ from ⟨hs, ⟨by omega, by omega⟩, by omega, by omega⟩)]
  walk_at "q"
  exact k

/-! last_place -/
def sp_last_place (T : Tx K mg) : SpQ := fun xs M Q _ => ∃ (a d1 d2 : Addr) (y : Wy) (r l m : Int) (F C : List Str) (n : Nu), xs = [.ref a, n.pv T.c_Number] ∧ Ctx T M a d1 d2 y r l m F C ∧ okP n.s n.f n.p ∧ Q (.int (lplN r l n)) M
theorem sp_last_place_len (T : Tx K mg) : ∀ xs M Q E, sp_last_place T xs M Q E → xs.length = 2 := fun xs M Q E ⟨_, _, _, _, _, _, _, _, _, _, h, _⟩ => by rw [h]; rfl
theorem ok_last_place (T : Tx K mg) : FnQ P w K mg base 4 T.a_last_place T.d_last_place ["context", "one"] (sp_last_place T) := by
  refine okQ T.F_last_place sc_last_place (sp_last_place_len T) (fun cdv A outer s0 H0 E hr => ?_)
  have tk := takes_of (X := cxOf (L2.CX P w) P w K mg base ["context", "one"] "last_place" (defScope s_last_place) T.a_last_place cdv A outer s0 H0 E) (E := E) rfl rfl rfl rfl
  have po := passes_of (X := cxOf (L2.CX P w) P w K mg base ["context", "one"] "last_place" (defScope s_last_place) T.a_last_place cdv A outer s0 H0 E) rfl
  refine ⟨_, (qss_one (qs_ret (qe_callB (id := "max") (cq_max rfl) T.n_max (qa_cons (qe_bin oq_add (qe_bin oq_sub (qe_call (ok_lead_of T) hr T.m_lead_of T.F_lead_of.kp T.b_lead_of tk (qa_cons (qv 1) qa_nil)) (qe_fldK (K := K) rfl (qv 0))) qe_int) (qa_cons (qe_meth0 (qv 0) T.i_Context.cl T.M_Context_lowest (ok_Context_lowest T) (hr.mono (by decide)) T.b_Context_lowest tk) qa_nil))))), ?_⟩
  clear tk po
  clear hr
  rintro xs M Q E ⟨a, d1, d2, y, r, l, m, F, C, n, rfl, c, o, k⟩
  walk_at "q"
  refine ⟨n, rfl, o, ?_⟩
  walk_at "q"
  rw [fldw_Context_room T c.self]
  walk_at "q"
  rw [mthw_Context_lowest T c.self]
  walk_at "q"
  refine ⟨a, d1, d2, y, r, l, m, F, C, rfl, c, ?_⟩
  walk_at "q"
  exact k

/-! one_farther -/
def sp_one_farther (T : Tx K mg) : SpQ := fun xs M Q _ => ∃ (a d1 d2 : Addr) (y : Wy) (r l m : Int) (F C : List Str) (n : Nu) (s : Int), xs = [.ref a, n.pv T.c_Number, .int s] ∧ Ctx T M a d1 d2 y r l m F C ∧ okP n.s n.f n.p ∧ (0 ≤ s ∧ s ≤ 1) ∧ Q ((farN r l m n s).pv T.c_Number) M
theorem sp_one_farther_len (T : Tx K mg) : ∀ xs M Q E, sp_one_farther T xs M Q E → xs.length = 3 := fun xs M Q E ⟨_, _, _, _, _, _, _, _, _, _, _, h, _⟩ => by rw [h]; rfl
theorem ok_one_farther (T : Tx K mg) : FnQ P w K mg base 5 T.a_one_farther T.d_one_farther ["context", "one", "sign"] (sp_one_farther T) := by
  refine okQ T.F_one_farther sc_one_farther (sp_one_farther_len T) (fun cdv A outer s0 H0 E hr => ?_)
  have tk := takes_of (X := cxOf (L2.CX P w) P w K mg base ["context", "one", "sign", "power", "many"] "one_farther" (defScope s_one_farther) T.a_one_farther cdv A outer s0 H0 E) (E := E) rfl rfl rfl rfl
  have po := passes_of (X := cxOf (L2.CX P w) P w K mg base ["context", "one", "sign", "power", "many"] "one_farther" (defScope s_one_farther) T.a_one_farther cdv A outer s0 H0 E) rfl
  refine ⟨_, (qss_cons (qs_if (qt_cmp (oq_eq hr.units) (qe_fldK (K := K) rfl (qv 1)) qe_int)
  (qss_one (qs_ret (qe_call (ok_plain T) (hr.mono (by decide)) T.m_plain T.F_plain.kp T.b_plain tk (qa_cons (qv 2) (qa_cons qe_int (qa_cons (qe_meth0 (qv 0) T.i_Context.cl T.M_Context_lowest (ok_Context_lowest T) (hr.mono (by decide)) T.b_Context_lowest tk) qa_nil))))))
  qss_nil)
  (qss_cons (qs_set 3 sc_one_farther.nd (qe_call (ok_last_place T) hr T.m_last_place T.F_last_place.kp T.b_last_place tk (qa_cons (qv 0) (qa_cons (qv 1) qa_nil))))
  (qss_cons (qs_set 4 sc_one_farther.nd (qe_bin oq_add (qe_ix (qe_meth (qe_makeD (dvs := []) (dps := []) T.mk_Ratio (ok_Ratio___init__ T) (hr.mono (by decide)) T.m_Ratio T.b_Ratio_3 (fun _ => Reps.nil) tk (qa_cons (qe_fldK (K := K) rfl (qv 1)) (qa_cons qe_int (qa_cons (qe_fldK (K := K) rfl (qv 1)) qa_nil)))) T.i_Ratio.cl T.M_Ratio_at (ok_Ratio_at T) (hr.mono (by decide)) T.b_Ratio_at tk (qa_cons (qv 3) qa_nil)) qe_int) qe_int))
  (qss_cons (qs_if (qt_cmp oq_gt (qe_call (ok_count_of T) (hr.mono (by decide)) T.m_count_of T.F_count_of.kp T.b_count_of tk (qa_cons (qv 4) qa_nil)) (qe_fldK (K := K) rfl (qv 0)))
  (qss_cons (qs_set 4 sc_one_farther.nd (qe_bin oq_div (qv 4) qe_int))
  (qss_one (qs_aug 3 sc_one_farther.nd iq_addG qe_int)))
  qss_nil)
  (qss_cons (qs_if (qt_cmp oq_gt (qe_bin oq_sub (qe_bin oq_add (qv 3) (qe_call (ok_count_of T) (hr.mono (by decide)) T.m_count_of T.F_count_of.kp T.b_count_of tk (qa_cons (qv 4) qa_nil))) qe_int) (qe_fldK (K := K) rfl (qv 0)))
  (qss_one (qs_ret (qe_call (ok_end T) (hr.mono (by decide)) T.m_end T.F_end.kp T.b_end tk (qa_cons (qv 2) qa_nil))))
  qss_nil)
  (qss_one (qs_ret (qe_call (ok_plain T) (hr.mono (by decide)) T.m_plain T.F_plain.kp T.b_plain tk (qa_cons (qv 2) (qa_cons (qv 4) (qa_cons (qv 3) qa_nil))))))))))), ?_⟩
  clear tk po
  clear hr
  rintro xs M Q E ⟨a, d1, d2, y, r, l, m, F, C, n, s, rfl, c, o, hs, k⟩
  have hf := o.2.1
  have hp := o.2.2
  have hr := c.room
  have hl := c.least
  have hm := c.most
  unfold farN at k
  unfold Nu.pv
  walk_at "q"
  refine iteP_of (fun h => ?_) (fun h => ?_)
  · rw [if_pos h] at k
    walk_at "q"
    rw [mthw_Context_lowest T c.self]
    walk_at "q"
    refine ⟨a, d1, d2, y, r, l, m, F, C, rfl, c, ?_⟩
    walk_at "q"
    refine ⟨_, _, _, rfl, ?_⟩
    rw [if_pos (show okP s _ _ from ⟨hs, ⟨by omega, by omega⟩, by omega, by omega⟩)]
    walk_at "q"
    exact k
  rw [if_neg h] at k
  walk_at "q"
  refine ⟨a, d1, d2, y, r, l, m, F, C, n, rfl, c, o, ?_⟩
  walk_at "q"
  have hw := whoX_lt (l := l) o hr h
  have hq := lpl_rg o hr hl
  have h24 : 10 ^ r.toNat ≤ 10 ^ 24 := pow10_le (by omega)
  refine ⟨n.f.toNat, 1, n.p, lplN r l n, (by unfold rat; rw [Int.toNat_of_nonneg hf.1] <;> rfl), at_lpl o hr hl, ?_⟩
  rw [show sideH n.f.toNat (n.p - lplN r l n) / sideL 1 (n.p - lplN r l n) = whoX n (lplN r l n) from rfl, show prt (sideH n.f.toNat (n.p - lplN r l n) % sideL 1 (n.p - lplN r l n)) (sideL 1 (n.p - lplN r l n)) = prtX n (lplN r l n) from rfl]
  have hcr := car_rg (q := lplN r l n) (w := whoX n (lplN r l n) + 1) hr hw
  generalize whoX n (lplN r l n) = w0 at *
  generalize lplN r l n = q at *
  have ecast : ((w0 : Nat) : Int) + 1 = ((w0 + 1 : Nat) : Int) := by omega
  generalize hw1 : w0 + 1 = w at *
  walk_at "q"
  rw [ecast]
  refine ⟨w, rfl, Nat.lt_trans (by omega : w < 10 ^ 25) (pow10_lt (by decide)), ?_⟩
  unfold carN at k hcr
  walk_at "q"
  rw [fldw_Context_room T c.self]
  walk_at "q"
  refine iteP_of (fun h2 => ?_) (fun h2 => ?_)
  · rw [if_pos h2] at k hcr
    walk_at "q"
    refine ⟨by mul_fits, w / 10, rfl, Nat.lt_trans (by omega : w / 10 < 10 ^ 25) (pow10_lt (by decide)), ?_⟩
    walk_at "q"
    rw [fldw_Context_most T c.self]
    walk_at "q"
    unfold capN at k
    dsimp only at k hcr
    refine iteP_of (fun h3 => ?_) (fun h3 => ?_)
    · rw [if_pos h3] at k
      walk_at "q"
      refine ⟨_, rfl, ?_⟩
      rw [if_pos hs]
      walk_at "q"
      exact k
    · rw [if_neg h3] at k
      walk_at "q"
      have hnd := nd_pos (w / 10)
      refine ⟨_, _, _, rfl, ?_⟩
      rw [if_pos (show okP s _ _ from ⟨hs, ⟨by omega, by omega⟩, by omega, by omega⟩)]
      walk_at "q"
      exact k
  · rw [if_neg h2] at k hcr
    walk_at "q"
    refine ⟨w, rfl, Nat.lt_trans (by omega : w < 10 ^ 25) (pow10_lt (by decide)), ?_⟩
    walk_at "q"
    rw [fldw_Context_most T c.self]
    walk_at "q"
    unfold capN at k
    dsimp only at k hcr
    refine iteP_of (fun h3 => ?_) (fun h3 => ?_)
    · rw [if_pos h3] at k
      walk_at "q"
      refine ⟨_, rfl, ?_⟩
      rw [if_pos hs]
      walk_at "q"
      exact k
    · rw [if_neg h3] at k
      walk_at "q"
      have hnd := nd_pos (w)
      refine ⟨_, _, _, rfl, ?_⟩
      rw [if_pos (show okP s _ _ from ⟨hs, ⟨by omega, by omega⟩, by omega, by omega⟩)]
      walk_at "q"
      exact k

/-! one_nearer -/
def sp_one_nearer (T : Tx K mg) : SpQ := fun xs M Q _ => ∃ (a d1 d2 : Addr) (y : Wy) (r l m : Int) (F C : List Str) (n : Nu), xs = [.ref a, n.pv T.c_Number] ∧ Ctx T M a d1 d2 y r l m F C ∧ (okP n.s n.f n.p ∧ n.f ≠ 0) ∧ Q ((neaN r l m n).pv T.c_Number) M
theorem sp_one_nearer_len (T : Tx K mg) : ∀ xs M Q E, sp_one_nearer T xs M Q E → xs.length = 2 := fun xs M Q E ⟨_, _, _, _, _, _, _, _, _, _, h, _⟩ => by rw [h]; rfl
theorem ok_one_nearer (T : Tx K mg) : FnQ P w K mg base 5 T.a_one_nearer T.d_one_nearer ["context", "one"] (sp_one_nearer T) := by
  refine okQ T.F_one_nearer sc_one_nearer (sp_one_nearer_len T) (fun cdv A outer s0 H0 E hr => ?_)
  have tk := takes_of (X := cxOf (L2.CX P w) P w K mg base ["context", "one", "power", "many", "part"] "one_nearer" (defScope s_one_nearer) T.a_one_nearer cdv A outer s0 H0 E) (E := E) rfl rfl rfl rfl
  have po := passes_of (X := cxOf (L2.CX P w) P w K mg base ["context", "one", "power", "many", "part"] "one_nearer" (defScope s_one_nearer) T.a_one_nearer cdv A outer s0 H0 E) rfl
  refine ⟨_, (qss_cons (qs_if (qt_cmp oq_gt (qe_call (ok_lead_of T) (hr.mono (by decide)) T.m_lead_of T.F_lead_of.kp T.b_lead_of tk (qa_cons (qv 1) qa_nil)) (qe_fldK (K := K) rfl (qv 0)))
  (qss_one (qs_ret (qe_call (ok_greatest_of T) hr T.m_greatest_of T.F_greatest_of.kp T.b_greatest_of tk (qa_cons (qv 0) (qa_cons (qe_fldK (K := K) rfl (qv 1)) qa_nil)))))
  qss_nil)
  (qss_cons (qs_set 2 sc_one_nearer.nd (qe_call (ok_last_place T) hr T.m_last_place T.F_last_place.kp T.b_last_place tk (qa_cons (qv 0) (qa_cons (qv 1) qa_nil))))
  (qss_cons (qs_asg (qe_meth (qe_makeD (dvs := []) (dps := []) T.mk_Ratio (ok_Ratio___init__ T) (hr.mono (by decide)) T.m_Ratio T.b_Ratio_3 (fun _ => Reps.nil) tk (qa_cons (qe_fldK (K := K) rfl (qv 1)) (qa_cons qe_int (qa_cons (qe_fldK (K := K) rfl (qv 1)) qa_nil)))) T.i_Ratio.cl T.M_Ratio_at (ok_Ratio_at T) (hr.mono (by decide)) T.b_Ratio_at tk (qa_cons (qv 2) qa_nil)) (qg_tup (n := 2) rfl (qgs_cons (qg_name (i := 3) sc_one_nearer.nd) (qgs_cons (qg_name (i := 4) sc_one_nearer.nd) qgs_nil))))
  (qss_cons (qs_if (qt_cmp oq_gt (qv 4) qe_int)
  (qss_one (qs_ret (qe_call (ok_plain T) (hr.mono (by decide)) T.m_plain T.F_plain.kp T.b_plain tk (qa_cons (qe_fldK (K := K) rfl (qv 1)) (qa_cons (qv 3) (qa_cons (qv 2) qa_nil))))))
  qss_nil)
  (qss_cons (qs_if (qt_w (qw_and (qt_cmp (oq_eq hr.units) (qv 3) (qe_call (ok_ten_to T) (hr.mono (by decide)) T.m_ten_to T.F_ten_to.kp T.b_ten_to tk (qa_cons (qe_bin oq_sub (qe_fldK (K := K) rfl (qv 0)) qe_int) qa_nil))) (qw_one_and (qt_cmp oq_gt (qv 2) (qe_meth0 (qv 0) T.i_Context.cl T.M_Context_lowest (ok_Context_lowest T) (hr.mono (by decide)) T.b_Context_lowest tk)))))
  (qss_one (qs_ret (qe_call (ok_plain T) (hr.mono (by decide)) T.m_plain T.F_plain.kp T.b_plain tk (qa_cons (qe_fldK (K := K) rfl (qv 1)) (qa_cons (qe_bin oq_sub (qe_call (ok_ten_to T) (hr.mono (by decide)) T.m_ten_to T.F_ten_to.kp T.b_ten_to tk (qa_cons (qe_fldK (K := K) rfl (qv 0)) qa_nil)) qe_int) (qa_cons (qe_bin oq_sub (qv 2) qe_int) qa_nil))))))
  qss_nil)
  (qss_one (qs_ret (qe_call (ok_plain T) (hr.mono (by decide)) T.m_plain T.F_plain.kp T.b_plain tk (qa_cons (qe_fldK (K := K) rfl (qv 1)) (qa_cons (qe_bin oq_sub (qv 3) qe_int) (qa_cons (qv 2) qa_nil))))))))))), ?_⟩
  clear tk po
  clear hr
  rintro xs M Q E ⟨a, d1, d2, y, r, l, m, F, C, n, rfl, c, ⟨o, h0⟩, k⟩
  have hf := o.2.1
  have hp := o.2.2
  have hr := c.room
  have hl := c.least
  have hm := c.most
  unfold neaN at k
  walk_at "q"
  refine ⟨n, rfl, o, ?_⟩
  walk_at "q"
  rw [fldw_Context_most T c.self]
  unfold Nu.pv
  walk_at "q"
  refine iteP_of (fun h => ?_) (fun h => ?_)
  · rw [if_pos h] at k
    walk_at "q"
    exact ⟨a, d1, d2, y, r, l, m, F, C, _, rfl, c, o.1, k⟩
  rw [if_neg h] at k
  walk_at "q"
  refine ⟨a, d1, d2, y, r, l, m, F, C, n, rfl, c, o, ?_⟩
  walk_at "q"
  have hw := whoX_lt (l := l) o hr h0
  have hq := lpl_rg o hr hl
  have h24 : 10 ^ r.toNat ≤ 10 ^ 24 := pow10_le (by omega)
  have h1 := ten_pos r.toNat
  refine ⟨n.f.toNat, 1, n.p, lplN r l n, (by unfold rat; rw [Int.toNat_of_nonneg hf.1] <;> rfl), at_lpl o hr hl, ?_⟩
  rw [show sideH n.f.toNat (n.p - lplN r l n) / sideL 1 (n.p - lplN r l n) = whoX n (lplN r l n) from rfl, show prt (sideH n.f.toNat (n.p - lplN r l n) % sideL 1 (n.p - lplN r l n)) (sideL 1 (n.p - lplN r l n)) = prtX n (lplN r l n) from rfl]
  have hq2 : lplN r l n ≤ m := by unfold lplN; omega
  have hz : prtX n (lplN r l n) = 0 → whoX n (lplN r l n) ≠ 0 := fun z => by
    have := Exa.nonzero (e := .ratio n.f.toNat 1 n.p) (p := lplN r l n) ⟨⟨by omega, Nat.le_refl 1⟩, (at_lpl o hr hl).2.1, (at_lpl o hr hl).2.2.1⟩ z
    exact Nat.pos_iff_ne_zero.mp this
  generalize whoX n (lplN r l n) = w at *
  generalize prtX n (lplN r l n) = t at *
  generalize lplN r l n = q at *
  walk_at "q"
  refine iteP_of (fun h2 => ?_) (fun h2 => ?_)
  · rw [if_pos (by omega)] at k
    walk_at "q"
    refine ⟨_, _, _, rfl, ?_⟩
    rw [if_pos (show okP n.s _ _ from ⟨o.1, ⟨by omega, by omega⟩, by omega, by omega⟩)]
    walk_at "q"
    exact k
  rw [if_neg (by omega)] at k
  walk_at "q"
  rw [fldw_Context_room T c.self]
  walk_at "q"
  refine ⟨r - 1, rfl, by omega, ?_⟩
  walk_at "q"
  refine iteP_of (fun h3 => ?_) (fun h3 => ?_)
  · walk_at "q"
    rw [mthw_Context_lowest T c.self]
    walk_at "q"
    refine ⟨a, d1, d2, y, r, l, m, F, C, rfl, c, ?_⟩
    walk_at "q"
    refine iteP_of (fun h4 => ?_) (fun h4 => ?_)
    · rw [if_pos ⟨by omega, h4⟩] at k
      walk_at "q"
      rw [fldw_Context_room T c.self]
      walk_at "q"
      refine ⟨r, rfl, by omega, ?_⟩
      walk_at "q"
      refine ⟨_, _, _, rfl, ?_⟩
      rw [if_pos (show okP n.s _ _ from ⟨o.1, ⟨by omega, by omega⟩, by omega, by omega⟩)]
      walk_at "q"
      exact k
    · rw [if_neg (fun z => h4 z.2)] at k
      walk_at "q"
      have := hz (by omega)
      refine ⟨_, _, _, rfl, ?_⟩
      rw [if_pos (show okP n.s _ _ from ⟨o.1, ⟨by omega, by omega⟩, by omega, by omega⟩)]
      walk_at "q"
      exact k
  · rw [if_neg (fun z => h3 (by omega))] at k
    walk_at "q"
    have := hz (by omega)
    refine ⟨_, _, _, rfl, ?_⟩
    rw [if_pos (show okP n.s _ _ from ⟨o.1, ⟨by omega, by omega⟩, by omega, by omega⟩)]
    walk_at "q"
    exact k

/-! next_to -/
def sp_next_to (T : Tx K mg) : SpQ := fun xs M Q _ => ∃ (a d1 d2 : Addr) (y : Wy) (r l m : Int) (F C : List Str) (n : Nu) (s : Int), xs = [.ref a, n.pv T.c_Number, .int s] ∧ Ctx T M a d1 d2 y r l m F C ∧ n.V ∧ (0 ≤ s ∧ s ≤ 1) ∧ Q ((nexV r l m n s).pv T.c_Number) M
theorem sp_next_to_len (T : Tx K mg) : ∀ xs M Q E, sp_next_to T xs M Q E → xs.length = 3 := fun xs M Q E ⟨_, _, _, _, _, _, _, _, _, _, _, h, _⟩ => by rw [h]; rfl
theorem ok_next_to (T : Tx K mg) : FnQ P w K mg base 6 T.a_next_to T.d_next_to ["context", "one", "sign"] (sp_next_to T) := by
  refine okQ T.F_next_to sc_next_to (sp_next_to_len T) (fun cdv A outer s0 H0 E hr => ?_)
  have tk := takes_of (X := cxOf (L2.CX P w) P w K mg base ["context", "one", "sign"] "next_to" (defScope s_next_to) T.a_next_to cdv A outer s0 H0 E) (E := E) rfl rfl rfl rfl
  have po := passes_of (X := cxOf (L2.CX P w) P w K mg base ["context", "one", "sign"] "next_to" (defScope s_next_to) T.a_next_to cdv A outer s0 H0 E) rfl
  refine ⟨_, (qss_cons (qs_expr (qe_call (ok_need_number T) (hr.mono (by decide)) T.m_need_number T.F_need_number.kp T.b_need_number tk (qa_cons (qv 1) qa_nil)))
  (qss_cons (qs_if (qt_cmp (oq_eq hr.units) (qe_fldK (K := K) rfl (qv 1)) qe_str)
  (qss_one (qs_ret (qe_call0 (ok_nothing T) (hr.mono (by decide)) T.m_nothing T.F_nothing.kp T.b_nothing tk)))
  qss_nil)
  (qss_cons (qs_if (qt_cmp (oq_eq hr.units) (qe_fldK (K := K) rfl (qv 1)) qe_str)
  (qss_cons (qs_if (qt_cmp (oq_eq hr.units) (qe_fldK (K := K) rfl (qv 1)) (qv 2))
  (qss_one (qs_ret (qe_call (ok_end T) (hr.mono (by decide)) T.m_end T.F_end.kp T.b_end tk (qa_cons (qv 2) qa_nil))))
  qss_nil)
  (qss_one (qs_ret (qe_call (ok_greatest_of T) (hr.mono (by decide)) T.m_greatest_of T.F_greatest_of.kp T.b_greatest_of tk (qa_cons (qv 0) (qa_cons (qe_fldK (K := K) rfl (qv 1)) qa_nil))))))
  qss_nil)
  (qss_cons (qs_if (qt_w (qw_or (qt_cmp (oq_eq hr.units) (qe_fldK (K := K) rfl (qv 1)) qe_int) (qw_one_or (qt_cmp (oq_eq hr.units) (qe_fldK (K := K) rfl (qv 1)) (qv 2)))))
  (qss_one (qs_ret (qe_call (ok_one_farther T) hr T.m_one_farther T.F_one_farther.kp T.b_one_farther tk (qa_cons (qv 0) (qa_cons (qv 1) (qa_cons (qv 2) qa_nil))))))
  qss_nil)
  (qss_one (qs_ret (qe_call (ok_one_nearer T) hr T.m_one_nearer T.F_one_nearer.kp T.b_one_nearer tk (qa_cons (qv 0) (qa_cons (qv 1) qa_nil))))))))), ?_⟩
  clear tk po
  clear hr
  rintro xs M Q E ⟨a, d1, d2, y, r, l, m, F, C, n, s, rfl, c, hn, hs, k⟩
  unfold nexV at k
  unfold Nu.pv
  walk_at "q"
  refine ⟨_, _, _, _, rfl, ?_⟩
  walk_at "q"
  refine iteP_of (fun h => ?_) (fun h => ?_)
  · rw [if_pos h] at k
    walk_at "q"
    refine ⟨rfl, ?_⟩
    walk_at "q"
    exact k
  have hi := hn.inn h
  rw [if_neg h] at k
  unfold nexN at k
  walk_at "q"
  refine iteP_of (fun h => ?_) (fun h => ?_)
  · rw [if_pos h] at k
    walk_at "q"
    refine iteP_of (fun h2 => ?_) (fun h2 => ?_)
    · rw [if_pos h2] at k
      walk_at "q"
      refine ⟨_, rfl, ?_⟩
      rw [if_pos hs]
      walk_at "q"
      exact k
    · rw [if_neg h2] at k
      walk_at "q"
      exact ⟨a, d1, d2, y, r, l, m, F, C, _, rfl, c, hi.s, k⟩
  rw [if_neg h] at k
  have o : okP n.s n.f n.p := hi.kd.elim (fun z => z.2) (fun z => absurd z.1 h)
  walk_at "q"
  refine iteP_of (fun h2 => ?_) (fun h2 => ?_)
  · rw [if_pos (.inl h2)] at k
    walk_at "q"
    exact ⟨a, d1, d2, y, r, l, m, F, C, n, _, rfl, c, o, hs, k⟩
  walk_at "q"
  refine iteP_of (fun h3 => ?_) (fun h3 => ?_)
  · rw [if_pos (.inr h3)] at k
    walk_at "q"
    exact ⟨a, d1, d2, y, r, l, m, F, C, n, _, rfl, c, o, hs, k⟩
  · rw [if_neg (fun z => z.elim h2 h3)] at k
    walk_at "q"
    exact ⟨a, d1, d2, y, r, l, m, F, C, n, rfl, c, ⟨o, h2⟩, k⟩

/-! next_up -/
def sp_next_up (T : Tx K mg) : SpQ := fun xs M Q _ => ∃ (a d1 d2 : Addr) (y : Wy) (r l m : Int) (F C : List Str) (n : Nu), xs = [.ref a, n.pv T.c_Number] ∧ Ctx T M a d1 d2 y r l m F C ∧ n.V ∧ Q ((nexV r l m n 0).pv T.c_Number) M
theorem sp_next_up_len (T : Tx K mg) : ∀ xs M Q E, sp_next_up T xs M Q E → xs.length = 2 := fun xs M Q E ⟨_, _, _, _, _, _, _, _, _, _, h, _⟩ => by rw [h]; rfl
theorem ok_next_up (T : Tx K mg) : FnQ P w K mg base 7 T.a_next_up T.d_next_up ["context", "one"] (sp_next_up T) := by
  refine okQ T.F_next_up sc_next_up (sp_next_up_len T) (fun cdv A outer s0 H0 E hr => ?_)
  have tk := takes_of (X := cxOf (L2.CX P w) P w K mg base ["context", "one"] "next_up" (defScope s_next_up) T.a_next_up cdv A outer s0 H0 E) (E := E) rfl rfl rfl rfl
  have po := passes_of (X := cxOf (L2.CX P w) P w K mg base ["context", "one"] "next_up" (defScope s_next_up) T.a_next_up cdv A outer s0 H0 E) rfl
  refine ⟨_, (qss_one (qs_ret (qe_call (ok_next_to T) hr T.m_next_to T.F_next_to.kp T.b_next_to tk (qa_cons (qv 0) (qa_cons (qv 1) (qa_cons qe_int qa_nil)))))), ?_⟩
  clear tk po
  clear hr
  rintro xs M Q E ⟨a, d1, d2, y, r, l, m, F, C, n, rfl, c, hn, k⟩
  walk_at "q"
  exact ⟨a, d1, d2, y, r, l, m, F, C, n, _, rfl, c, hn, by decide, k⟩

/-! next_down -/
def sp_next_down (T : Tx K mg) : SpQ := fun xs M Q _ => ∃ (a d1 d2 : Addr) (y : Wy) (r l m : Int) (F C : List Str) (n : Nu), xs = [.ref a, n.pv T.c_Number] ∧ Ctx T M a d1 d2 y r l m F C ∧ n.V ∧ Q ((nexV r l m n 1).pv T.c_Number) M
theorem sp_next_down_len (T : Tx K mg) : ∀ xs M Q E, sp_next_down T xs M Q E → xs.length = 2 := fun xs M Q E ⟨_, _, _, _, _, _, _, _, _, _, h, _⟩ => by rw [h]; rfl
theorem ok_next_down (T : Tx K mg) : FnQ P w K mg base 7 T.a_next_down T.d_next_down ["context", "one"] (sp_next_down T) := by
  refine okQ T.F_next_down sc_next_down (sp_next_down_len T) (fun cdv A outer s0 H0 E hr => ?_)
  have tk := takes_of (X := cxOf (L2.CX P w) P w K mg base ["context", "one"] "next_down" (defScope s_next_down) T.a_next_down cdv A outer s0 H0 E) (E := E) rfl rfl rfl rfl
  have po := passes_of (X := cxOf (L2.CX P w) P w K mg base ["context", "one"] "next_down" (defScope s_next_down) T.a_next_down cdv A outer s0 H0 E) rfl
  refine ⟨_, (qss_one (qs_ret (qe_call (ok_next_to T) hr T.m_next_to T.F_next_to.kp T.b_next_to tk (qa_cons (qv 0) (qa_cons (qv 1) (qa_cons qe_int qa_nil)))))), ?_⟩
  clear tk po
  clear hr
  rintro xs M Q E ⟨a, d1, d2, y, r, l, m, F, C, n, rfl, c, hn, k⟩
  walk_at "q"
  exact ⟨a, d1, d2, y, r, l, m, F, C, n, _, rfl, c, hn, by decide, k⟩

/-! _law_cell_at -/
def sp__law_cell_at : SpQ := fun xs M Q _ => ∃ (ns : List Int) (k : Int), xs = [.scr ns, .int k] ∧ 0 ≤ k ∧ Q (.int (cell ns k)) M
theorem sp__law_cell_at_len : ∀ xs M Q E, sp__law_cell_at xs M Q E → xs.length = 2 := fun xs M Q E ⟨_, _, h, _⟩ => by rw [h]; rfl
theorem ok__law_cell_at (T : Tx K mg) : FnQ P w K mg base 1 T.a__law_cell_at T.d__law_cell_at ["_law_script", "_law_k"] sp__law_cell_at := by
  refine okQ T.F__law_cell_at sc__law_cell_at sp__law_cell_at_len (fun cdv A outer s0 H0 E hr => ?_)
  have tk := takes_of (X := cxOf (L2.CX P w) P w K mg base ["_law_script", "_law_k"] "_law_cell_at" (defScope s__law_cell_at) T.a__law_cell_at cdv A outer s0 H0 E) (E := E) rfl rfl rfl rfl
  have po := passes_of (X := cxOf (L2.CX P w) P w K mg base ["_law_script", "_law_k"] "_law_cell_at" (defScope s__law_cell_at) T.a__law_cell_at cdv A outer s0 H0 E) rfl
  refine ⟨_, (qss_cons (qs_if (qt_cmp oq_lt (qv 1) (qe_callB (id := "len") cq_len T.n_len (qa_cons (qv 0) qa_nil)))
  (qss_one (qs_ret (qe_ix (qv 0) (qv 1))))
  qss_nil)
  (qss_one (qs_ret qe_int))), ?_⟩
  clear tk po
  clear hr
  rintro xs M Q E ⟨ns, k, rfl, hk, h⟩
  walk_at "q"
  refine iteP_of (fun h1 => ?_) (fun h1 => ?_)
  · walk_at "q"
    rw [cell_at hk h1]
    walk_at "q"
    exact h
  · walk_at "q"
    rw [cell_no hk h1] at h
    exact h

/-! _law_mixed -/
def sp__law_mixed : SpQ := fun xs M Q _ => ∃ c k : Int, xs = [.int c, .int k] ∧ (0 ≤ k ∧ k ≤ 1000) ∧ Q (.int (mixed c k)) M
theorem sp__law_mixed_len : ∀ xs M Q E, sp__law_mixed xs M Q E → xs.length = 2 := fun xs M Q E ⟨_, _, h, _⟩ => by rw [h]; rfl
theorem ok__law_mixed (T : Tx K mg) : FnQ P w K mg base 1 T.a__law_mixed T.d__law_mixed ["_law_cell", "_law_k"] sp__law_mixed := by
  refine okQ T.F__law_mixed sc__law_mixed sp__law_mixed_len (fun cdv A outer s0 H0 E hr => ?_)
  have tk := takes_of (X := cxOf (L2.CX P w) P w K mg base ["_law_cell", "_law_k"] "_law_mixed" (defScope s__law_mixed) T.a__law_mixed cdv A outer s0 H0 E) (E := E) rfl rfl rfl rfl
  have po := passes_of (X := cxOf (L2.CX P w) P w K mg base ["_law_cell", "_law_k"] "_law_mixed" (defScope s__law_mixed) T.a__law_mixed cdv A outer s0 H0 E) rfl
  refine ⟨_, (qss_one (qs_ret (qe_bin oq_mod (qe_bin oq_mul (qe_bin oq_mod (qe_bin oq_add (qe_bin oq_add (qe_bin oq_mul (qv 0) (qe_bin oq_add qe_int (qe_bin oq_mul (qe_bin oq_mul qe_int (qv 1)) (qv 1)))) (qe_bin oq_mul qe_int (qv 1))) qe_int) qe_int) qe_int) qe_int))), ?_⟩
  clear tk po
  clear hr
  rintro xs M Q E ⟨c, k, rfl, hk, h⟩
  walk_at "q"
  have h1 : k * k ≤ 1000 * k := Int.mul_le_mul_of_nonneg_right hk.2 hk.1
  have h0 : 0 ≤ k * k := Int.mul_nonneg hk.1 hk.1
  have e2 : 2 * k * k = 2 * (k * k) := Int.mul_assoc 2 k k
  exact ⟨by mul_fits, by mul_fits, by mul_fits, by mul_fits, by mul_fits, h⟩

/-! _law_ten -/
def sp__law_ten : SpQ := fun xs M Q _ => ∃ n : Int, xs = [.int n] ∧ (0 ≤ n ∧ n ≤ 600) ∧ Q (.int ((10 ^ n.toNat : Nat) : Int)) M
theorem sp__law_ten_len : ∀ xs M Q E, sp__law_ten xs M Q E → xs.length = 1 := fun xs M Q E ⟨_, h, _⟩ => by rw [h]; rfl
theorem ok__law_ten (T : Tx K mg) : FnQ P w K mg base 1 T.a__law_ten T.d__law_ten ["_law_count"] sp__law_ten := by
  refine okQ T.F__law_ten sc__law_ten sp__law_ten_len (fun cdv A outer s0 H0 E hr => ?_)
  have tk := takes_of (X := cxOf (L2.CX P w) P w K mg base ["_law_count"] "_law_ten" (defScope s__law_ten) T.a__law_ten cdv A outer s0 H0 E) (E := E) rfl rfl rfl rfl
  have po := passes_of (X := cxOf (L2.CX P w) P w K mg base ["_law_count"] "_law_ten" (defScope s__law_ten) T.a__law_ten cdv A outer s0 H0 E) rfl
  refine ⟨_, (qss_one (qs_ret (qe_callT (T := "int") cq_int T.n_int (qa_cons (qe_bin oq_add qe_str (qe_bin oq_mul qe_str (qv 0))) qa_nil)))), ?_⟩
  clear tk po
  clear hr
  rintro xs M Q E ⟨n, rfl, hn, h⟩
  walk_at "q"
  have hz : (repS ("0" : Str) n).length = n.toNat := by
    have := one_zero_len n
    rw [strLen_append] at this
    have h1 : ("1" : Str).length = 1 := rfl
    omega
  refine ⟨⟨hn.1, by omega, by decide⟩, ?_, _, ten_text (by omega), by rw [one_zero_len]; omega, h⟩
  rw [hz, sizeLine_eq]
  have h1 : ("1" : Str).length = 1 := rfl
  omega

/-! _law_figures -/
def sp__law_figures : SpQ := fun xs M Q _ => ∃ c way : Int, xs = [.int c, .int way] ∧ (0 ≤ way ∧ way ≤ 7) ∧ ∀ f : Int, 0 ≤ f → f ≤ 10 ^ 60 - 1 → Q (.int f) M
theorem sp__law_figures_len : ∀ xs M Q E, sp__law_figures xs M Q E → xs.length = 2 := fun xs M Q E ⟨_, _, h, _⟩ => by rw [h]; rfl
theorem ok__law_figures (T : Tx K mg) : FnQ P w K mg base 2 T.a__law_figures T.d__law_figures ["_law_cell", "_law_way"] sp__law_figures := by
  refine okQ T.F__law_figures sc__law_figures sp__law_figures_len (fun cdv A outer s0 H0 E hr => ?_)
  have tk := takes_of (X := cxOf (L2.CX P w) P w K mg base ["_law_cell", "_law_way", "_law_more", "_law_found", "_law_k"] "_law_figures" (defScope s__law_figures) T.a__law_figures cdv A outer s0 H0 E) (E := E) rfl rfl rfl rfl
  have po := passes_of (X := cxOf (L2.CX P w) P w K mg base ["_law_cell", "_law_way", "_law_more", "_law_found", "_law_k"] "_law_figures" (defScope s__law_figures) T.a__law_figures cdv A outer s0 H0 E) rfl
  refine ⟨_, (qss_cons (qs_set 2 sc__law_figures.nd (qe_call (ok__law_mixed T) hr T.m__law_mixed T.F__law_mixed.kp T.b__law_mixed tk (qa_cons (qv 0) (qa_cons qe_int qa_nil))))
  (qss_cons (qs_if (qt_w (qw_or (qt_cmp (oq_eq hr.units) (qv 1) qe_int) (qw_one_or (qt_cmp (oq_eq hr.units) (qv 1) qe_int))))
  (qss_cons (qs_set 3 sc__law_figures.nd qe_int)
  (qss_cons (qs_forR1 po rfl T.n_range (qa_cons qe_int qa_nil) (qg_name (i := 4) sc__law_figures.nd)
  (qss_one (qs_set 3 sc__law_figures.nd (qe_bin oq_add (qe_bin oq_mul (qv 3) qe_int) (qe_bin oq_mod (qe_call (ok__law_mixed T) hr T.m__law_mixed T.F__law_mixed.kp T.b__law_mixed tk (qa_cons (qv 0) (qa_cons (qe_bin oq_add qe_int (qv 4)) qa_nil))) qe_int)))))
  (qss_one (qs_ret (qe_bin oq_mod (qv 3) (qe_call (ok__law_ten T) hr T.m__law_ten T.F__law_ten.kp T.b__law_ten tk (qa_cons (qe_bin oq_add qe_int (qe_bin oq_mod (qv 2) (qe_ix (qe_lst (qa_cons qe_int (qa_cons qe_int qa_nil))) (qe_bin oq_sub (qv 1) qe_int)))) qa_nil)))))))
  qss_nil)
  (qss_cons (qs_if (qt_w (qw_or (qt_cmp (oq_eq hr.units) (qv 1) qe_int) (qw_one_or (qt_cmp (oq_eq hr.units) (qv 1) qe_int))))
  (qss_one (qs_ret (qe_bin oq_mul (qe_bin oq_add (qe_bin oq_mod (qv 2) qe_int) qe_int) (qe_call (ok__law_ten T) hr T.m__law_ten T.F__law_ten.kp T.b__law_ten tk (qa_cons (qe_bin oq_mod (qe_bin oq_div (qv 2) qe_int) qe_int) qa_nil)))))
  qss_nil)
  (qss_cons (qs_if (qt_cmp (oq_eq hr.units) (qv 1) qe_int)
  (qss_one (qs_ret (qe_bin oq_add (qe_bin oq_sub (qe_call (ok__law_ten T) hr T.m__law_ten T.F__law_ten.kp T.b__law_ten tk (qa_cons (qe_bin oq_add qe_int (qe_bin oq_mod (qv 2) qe_int)) qa_nil)) qe_int) (qe_bin oq_mod (qe_bin oq_div (qv 2) qe_int) qe_int))))
  qss_nil)
  (qss_one (qs_ret (qe_bin oq_mod (qv 2) (qe_ix (qe_lst (qa_cons qe_int (qa_cons qe_int (qa_cons qe_int qa_nil)))) (qe_bin oq_mod (qe_bin oq_div (qv 2) qe_int) qe_int))))))))), ?_⟩
  clear tk po
  clear hr
  rintro xs M Q E ⟨c, way, rfl, hw, k⟩
  have hx := mixed_range c 1
  walk_at "q"
  refine ⟨_, _, rfl, by decide, ?_⟩
  walk_at "q"
  have loop : (0 : Nat) = 0 := rfl
  refine iteP_of (fun h => ?_) (fun h => ?_)
  · subst h
    walk_at "q"
    refine rngP_of (by decide) (fun i env M' => M' = M ∧ ∃ (z : Int) (o4 : Option PV), (0 ≤ z ∧ z < 2 ^ (31 * i)) ∧ env = [some (.int c), some (.int 2), some (.int (mixed c 1)), some (.int z), o4]) ?_ ?_ ?_
    · exact ⟨rfl, 0, none, by decide, rfl⟩
    · rintro i env M' hi ⟨rfl, z, o4, hz, rfl⟩
      have hi7 : i < 7 := by omega
      walk_at "q"
      refine ⟨by mul_fits, _, _, rfl, by omega, ?_⟩
      have hm := mixed_range c (10 + (i : Int))
      walk_at "q"
      have e : (2 : Int) ^ (31 * (i + 1)) = 2 ^ (31 * i) * 2147483648 := by
        rw [show 31 * (i + 1) = 31 * i + 31 by omega, Int.pow_add]; rfl
      exact ⟨_, _, ⟨by omega, by rw [e]; omega⟩, rfl⟩
    · rintro env M' ⟨rfl, z, o4, hz, rfl⟩
      walk_at "q"
      rw [show (2 : Int) - 2 = 0 from rfl]
      walk_at "q"
      refine ⟨_, rfl, by omega, ?_⟩
      have ht := ten_pos (1 + mixed c 1 % 24).toNat
      have ht2 : 10 ^ (1 + mixed c 1 % 24).toNat ≤ 10 ^ 60 := pow10_le (by omega)
      walk_at "q"
      refine ⟨by omega, k _ (Int.emod_nonneg _ (by omega)) ?_⟩
      have := Int.emod_lt_of_pos z (show 0 < ((10 ^ (1 + mixed c 1 % 24).toNat : Nat) : Int) by omega)
      omega
  walk_at "q"
  refine iteP_of (fun h => ?_) (fun h => ?_)
  · subst h
    walk_at "q"
    refine rngP_of (by decide) (fun i env M' => M' = M ∧ ∃ (z : Int) (o4 : Option PV), (0 ≤ z ∧ z < 2 ^ (31 * i)) ∧ env = [some (.int c), some (.int 3), some (.int (mixed c 1)), some (.int z), o4]) ?_ ?_ ?_
    · exact ⟨rfl, 0, none, by decide, rfl⟩
    · rintro i env M' hi ⟨rfl, z, o4, hz, rfl⟩
      have hi7 : i < 7 := by omega
      walk_at "q"
      refine ⟨by mul_fits, _, _, rfl, by omega, ?_⟩
      have hm := mixed_range c (10 + (i : Int))
      walk_at "q"
      have e : (2 : Int) ^ (31 * (i + 1)) = 2 ^ (31 * i) * 2147483648 := by
        rw [show 31 * (i + 1) = 31 * i + 31 by omega, Int.pow_add]; rfl
      exact ⟨_, _, ⟨by omega, by rw [e]; omega⟩, rfl⟩
    · rintro env M' ⟨rfl, z, o4, hz, rfl⟩
      walk_at "q"
      rw [show (3 : Int) - 2 = 1 from rfl]
      walk_at "q"
      refine ⟨_, rfl, by omega, ?_⟩
      have ht := ten_pos (1 + mixed c 1 % 60).toNat
      have ht2 : 10 ^ (1 + mixed c 1 % 60).toNat ≤ 10 ^ 60 := pow10_le (by omega)
      walk_at "q"
      refine ⟨by omega, k _ (Int.emod_nonneg _ (by omega)) ?_⟩
      have := Int.emod_lt_of_pos z (show 0 < ((10 ^ (1 + mixed c 1 % 60).toNat : Nat) : Int) by omega)
      omega
  walk_at "q"
  refine iteP_of (fun h => ?_) (fun h => ?_)
  · walk_at "q"
    refine ⟨by mul_fits, _, rfl, by omega, ?_⟩
    have ht := ten_pos (mixed c 1 / 99 % 13).toNat
    have ht2 : 10 ^ (mixed c 1 / 99 % 13).toNat ≤ 10 ^ 13 := pow10_le (by omega)
    walk_at "q"
    refine ⟨by mul_fits, k _ ?_ ?_⟩
    · exact Int.mul_nonneg (by omega) (by omega)
    · have h1 : (mixed c 1 % 99 + 1) * ((10 ^ (mixed c 1 / 99 % 13).toNat : Nat) : Int) ≤ 100 * 10 ^ 13 := Int.mul_le_mul (by omega) (by omega) (by omega) (by decide)
      omega
  walk_at "q"
  refine iteP_of (fun h => ?_) (fun h => ?_)
  · walk_at "q"
    refine ⟨by mul_fits, _, rfl, by omega, ?_⟩
    have ht := ten_pos (mixed c 1 / 99 % 13).toNat
    have ht2 : 10 ^ (mixed c 1 / 99 % 13).toNat ≤ 10 ^ 13 := pow10_le (by omega)
    walk_at "q"
    refine ⟨by mul_fits, k _ ?_ ?_⟩
    · exact Int.mul_nonneg (by omega) (by omega)
    · have h1 : (mixed c 1 % 99 + 1) * ((10 ^ (mixed c 1 / 99 % 13).toNat : Nat) : Int) ≤ 100 * 10 ^ 13 := Int.mul_le_mul (by omega) (by omega) (by omega) (by decide)
      omega
  walk_at "q"
  refine iteP_of (fun h => ?_) (fun h => ?_)
  · walk_at "q"
    refine ⟨_, rfl, by omega, ?_⟩
    have ht := ten_pos (1 + mixed c 1 % 24).toNat
    have ht2 : 10 ^ (1 + mixed c 1 % 24).toNat ≤ 10 ^ 25 := pow10_le (by omega)
    walk_at "q"
    exact ⟨by mul_fits, k _ (by omega) (by omega)⟩
  walk_at "q"
  refine ⟨by mul_fits, ?_⟩
  obtain ⟨v, hv, e⟩ := atI_mem (xs := [PV.int 10, PV.int 100, PV.int 1000]) (i := mixed c 1 / 1000 % 3) (by omega) (by simp only [List.length_cons, List.length_nil]; omega)
  rw [e]
  have hv : ∃ z : Int, v = .int z ∧ 10 ≤ z ∧ z ≤ 1000 := by
    simp only [List.mem_cons, List.not_mem_nil, or_false] at hv
    rcases hv with rfl | rfl | rfl
    · exact ⟨_, rfl, by decide, by decide⟩
    · exact ⟨_, rfl, by decide, by decide⟩
    · exact ⟨_, rfl, by decide, by decide⟩
  obtain ⟨z, rfl, hz⟩ := hv
  walk_at "q"
  have hm := Int.emod_lt_of_pos (mixed c 1) (show 0 < z by omega)
  have h0 := Int.emod_nonneg (mixed c 1) (show z ≠ 0 by omega)
  exact ⟨by omega, k _ h0 (by omega)⟩

/-! _law_number -/
def sp__law_number : SpQ := fun xs M Q _ => ∃ c : Int, xs = [.int c] ∧ ∀ n : Nu, n.V → Q n.tup M
theorem sp__law_number_len : ∀ xs M Q E, sp__law_number xs M Q E → xs.length = 1 := fun xs M Q E ⟨_, h, _⟩ => by rw [h]; rfl
theorem ok__law_number (T : Tx K mg) : FnQ P w K mg base 3 T.a__law_number T.d__law_number ["_law_cell"] sp__law_number := by
  refine okQ T.F__law_number sc__law_number sp__law_number_len (fun cdv A outer s0 H0 E hr => ?_)
  have tk := takes_of (X := cxOf (L2.CX P w) P w K mg base ["_law_cell", "_law_kind", "_law_sign", "_law_more", "_law_wide"] "_law_number" (defScope s__law_number) T.a__law_number cdv A outer s0 H0 E) (E := E) rfl rfl rfl rfl
  have po := passes_of (X := cxOf (L2.CX P w) P w K mg base ["_law_cell", "_law_kind", "_law_sign", "_law_more", "_law_wide"] "_law_number" (defScope s__law_number) T.a__law_number cdv A outer s0 H0 E) rfl
  refine ⟨_, (qss_cons (qs_set 1 sc__law_number.nd (qe_bin oq_mod (qv 0) qe_int))
  (qss_cons (qs_set 2 sc__law_number.nd (qe_bin oq_mod (qe_bin oq_div (qv 0) qe_int) qe_int))
  (qss_cons (qs_set 3 sc__law_number.nd (qe_call (ok__law_mixed T) (hr.mono (by decide)) T.m__law_mixed T.F__law_mixed.kp T.b__law_mixed tk (qa_cons (qv 0) (qa_cons qe_int qa_nil))))
  (qss_cons (qs_if (qt_cmp (oq_eq hr.units) (qv 1) qe_int)
  (qss_one (qs_ret (qe_tup (qa_cons qe_str (qa_cons (qv 2) (qa_cons qe_int (qa_cons (qe_bin oq_sub (qe_bin oq_mod (qv 3) qe_int) qe_int) qa_nil)))))))
  qss_nil)
  (qss_cons (qs_if (qt_cmp (oq_eq hr.units) (qv 1) qe_int)
  (qss_one (qs_ret (qe_ix (qe_lst (qa_cons (qe_tup (qa_cons qe_str (qa_cons (qv 2) (qa_cons qe_int (qa_cons qe_int qa_nil))))) (qa_cons (qe_tup (qa_cons qe_str (qa_cons qe_int (qa_cons qe_int (qa_cons qe_int qa_nil))))) qa_nil))) (qe_callT (T := "int") cq_int T.n_int (qa_cons (qe_cmp (oq_eq hr.units) (qe_bin oq_mod (qv 3) qe_int) qe_int) qa_nil)))))
  qss_nil)
  (qss_cons (qs_set 4 sc__law_number.nd (qe_bin oq_sub (qe_bin oq_mod (qv 3) qe_int) qe_int))
  (qss_cons (qs_if (qt_cmp (oq_eq hr.units) (qe_bin oq_mod (qe_bin oq_div (qv 3) qe_int) qe_int) qe_int)
  (qss_one (qs_set 4 sc__law_number.nd (qe_bin oq_sub (qe_bin oq_mod (qe_bin oq_div (qv 3) qe_int) qe_int) qe_int)))
  qss_nil)
  (qss_cons (qs_if (qt_cmp (oq_eq hr.units) (qe_bin oq_mod (qe_bin oq_div (qv 3) qe_int) qe_int) qe_int)
  (qss_one (qs_set 4 sc__law_number.nd (qe_bin oq_sub (qe_bin oq_mod (qe_bin oq_div (qv 3) qe_int) qe_int) qe_int)))
  qss_nil)
  (qss_one (qs_ret (qe_tup (qa_cons qe_str (qa_cons (qv 2) (qa_cons (qe_call (ok__law_figures T) hr T.m__law_figures T.F__law_figures.kp T.b__law_figures tk (qa_cons (qv 0) (qa_cons (qe_bin oq_mod (qe_bin oq_div (qv 0) qe_int) qe_int) qa_nil))) (qa_cons (qv 4) qa_nil))))))))))))))), ?_⟩
  clear tk po
  clear hr
  rintro xs M Q E ⟨c, rfl, k⟩
  have hx := mixed_range c 2
  walk_at "q"
  refine ⟨by mul_fits, _, _, rfl, by decide, ?_⟩
  walk_at "q"
  have hs : 0 ≤ c / 8 % 2 ∧ c / 8 % 2 ≤ 1 := by omega
  refine iteP_of (fun h => ?_) (fun h => ?_)
  · walk_at "q"
    exact k ⟨"plain", c / 8 % 2, 0, mixed c 2 % 41 - 20⟩ ⟨⟨hs, ⟨Int.le_refl 0, by show (0 : Int) < 10 ^ 100; decide⟩, by show -250 ≤ mixed c 2 % 41 - 20 ∧ mixed c 2 % 41 - 20 ≤ 250; omega⟩, .inl ⟨rfl, hs, ⟨Int.le_refl 0, by show (0 : Int) ≤ 10 ^ 60 - 1; decide⟩, by show -200 ≤ mixed c 2 % 41 - 20 ∧ mixed c 2 % 41 - 20 ≤ 200; omega⟩⟩
  walk_at "q"
  refine iteP_of (fun h => ?_) (fun h => ?_)
  · walk_at "q"
    have end' : Q (.tup [.str "end", .int (c / 8 % 2), .int 0, .int 0]) M := k ⟨"end", c / 8 % 2, 0, 0⟩ ⟨⟨hs, ⟨Int.le_refl 0, by show (0 : Int) < 10 ^ 100; decide⟩, by show -250 ≤ (0 : Int) ∧ (0 : Int) ≤ 250; decide⟩, .inr (.inl ⟨rfl, rfl, rfl⟩)⟩
    have none' : Q (.tup [.str "none", .int 0, .int 0, .int 0]) M := k noneN ⟨⟨by decide, ⟨Int.le_refl 0, by show (0 : Int) < 10 ^ 100; decide⟩, by show -250 ≤ (0 : Int) ∧ (0 : Int) ≤ 250; decide⟩, .inr (.inr rfl)⟩
    by_cases h2 : mixed c 2 % 4 = 0
    · rw [if_pos h2]
      walk_at "q"
      exact none'
    · rw [if_neg h2]
      walk_at "q"
      exact end'
  walk_at "q"
  refine ⟨by mul_fits, ?_⟩
  have fin : ∀ f p : Int, 0 ≤ f → f ≤ 10 ^ 60 - 1 → -200 ≤ p → p ≤ 200 → Q (.tup [.str "plain", .int (c / 8 % 2), .int f, .int p]) M := fun f p h1 h2 h3 h4 =>
    k ⟨"plain", c / 8 % 2, f, p⟩ ⟨⟨hs, ⟨h1, by show f < 10 ^ 100; omega⟩, by show -250 ≤ p ∧ p ≤ 250; omega⟩, .inl ⟨rfl, hs, ⟨h1, h2⟩, h3, h4⟩⟩
  clear k
  refine iteP_of (fun h => ?_) (fun h => ?_)
  · walk_at "q"
    refine ⟨by mul_fits, by mul_fits, ?_⟩
    refine iteP_of (fun h2 => ?_) (fun h2 => ?_)
    · walk_at "q"
      refine ⟨by mul_fits, by mul_fits, c, _, rfl, by omega, fun f f1 f2 => ?_⟩
      walk_at "q"
      exact fin _ _ f1 f2 (by omega) (by omega)
    · walk_at "q"
      refine ⟨by mul_fits, c, _, rfl, by omega, fun f f1 f2 => ?_⟩
      walk_at "q"
      exact fin _ _ f1 f2 (by omega) (by omega)
  · walk_at "q"
    refine ⟨by mul_fits, ?_⟩
    refine iteP_of (fun h2 => ?_) (fun h2 => ?_)
    · walk_at "q"
      refine ⟨by mul_fits, by mul_fits, c, _, rfl, by omega, fun f f1 f2 => ?_⟩
      walk_at "q"
      exact fin _ _ f1 f2 (by omega) (by omega)
    · walk_at "q"
      refine ⟨by mul_fits, c, _, rfl, by omega, fun f f1 f2 => ?_⟩
      walk_at "q"
      exact fin _ _ f1 f2 (by omega) (by omega)

/-! _law_made -/
def sp__law_made (T : Tx K mg) : SpQ := fun xs M Q _ => ∃ n : Nu, xs = [n.tup] ∧ n.V ∧ Q (n.pv T.c_Number) M
theorem sp__law_made_len (T : Tx K mg) : ∀ xs M Q E, sp__law_made T xs M Q E → xs.length = 1 := fun xs M Q E ⟨_, h, _⟩ => by rw [h]; rfl
theorem ok__law_made (T : Tx K mg) : FnQ P w K mg base 4 T.a__law_made T.d__law_made ["_law_one"] (sp__law_made T) := by
  refine okQ T.F__law_made sc__law_made (sp__law_made_len T) (fun cdv A outer s0 H0 E hr => ?_)
  have tk := takes_of (X := cxOf (L2.CX P w) P w K mg base ["_law_one"] "_law_made" (defScope s__law_made) T.a__law_made cdv A outer s0 H0 E) (E := E) rfl rfl rfl rfl
  have po := passes_of (X := cxOf (L2.CX P w) P w K mg base ["_law_one"] "_law_made" (defScope s__law_made) T.a__law_made cdv A outer s0 H0 E) rfl
  refine ⟨_, (qss_cons (qs_if (qt_cmp (oq_eq hr.units) (qe_ix (qv 0) qe_int) qe_str)
  (qss_one (qs_ret (qe_call (ok_plain T) hr T.m_plain T.F_plain.kp T.b_plain tk (qa_cons (qe_ix (qv 0) qe_int) (qa_cons (qe_ix (qv 0) qe_int) (qa_cons (qe_ix (qv 0) qe_int) qa_nil))))))
  qss_nil)
  (qss_cons (qs_if (qt_cmp (oq_eq hr.units) (qe_ix (qv 0) qe_int) qe_str)
  (qss_one (qs_ret (qe_call (ok_end T) hr T.m_end T.F_end.kp T.b_end tk (qa_cons (qe_ix (qv 0) qe_int) qa_nil))))
  qss_nil)
  (qss_one (qs_ret (qe_call0 (ok_nothing T) hr T.m_nothing T.F_nothing.kp T.b_nothing tk))))), ?_⟩
  clear tk po
  clear hr
  rintro xs M Q E ⟨n, rfl, hn, k⟩
  unfold Nu.tup
  walk_at "q"
  refine iteP_of (fun h => ?_) (fun h => ?_)
  · have o : okP n.s n.f n.p := by
      rcases hn.kd with z | z | z
      · exact z.2
      · rw [z.1] at h; exact absurd h (by decide)
      · rw [z] at h; exact absurd h (by decide)
    walk_at "q"
    refine ⟨_, _, _, rfl, ?_⟩
    rw [if_pos o]
    walk_at "q"
    rw [← h] at *
    exact k
  · walk_at "q"
    refine iteP_of (fun h2 => ?_) (fun h2 => ?_)
    · walk_at "q"
      refine ⟨_, rfl, ?_⟩
      rw [if_pos hn.sm.s]
      walk_at "q"
      have e : n = ⟨"end", n.s, 0, 0⟩ := by
        obtain ⟨k, s, f, p⟩ := n
        rcases hn.kd with z | z | z
        · exact absurd z.1 h
        · obtain ⟨z1, z2, z3⟩ := z; dsimp only at z1 z2 z3; rw [z1, z2, z3]
        · rw [z] at h2; exact absurd h2 (by decide)
      rw [e] at k
      exact k
    · have e : n = noneN := by
        rcases hn.kd with z | z | z
        · exact absurd z.1 h
        · exact absurd z.1 h2
        · exact z
      walk_at "q"
      refine ⟨rfl, ?_⟩
      walk_at "q"
      rw [e] at k
      exact k

/-! _law_own -/
theorem put_next {M : Mem} {a : Addr} {k : Str} {ks : List Key} {vs : List PV} {y : PV} {Q : Box (Mem → Prop)} (nd' : (ks ++ [sk k]).Nodup) (hl : ks.length = vs.length) (l : ks.length < sizeLine) (q : Q.v (mset M a (.dic (ks ++ [sk k]) (vs ++ [y])))) : @putB (.str k) y (.ref a) (mset M a (.dic ks vs)) Q :=
  have hk : sk k ∉ ks := fun h => (List.nodup_append.mp nd').2.2 _ h _ List.mem_cons_self rfl
  put_dic mset_same rfl (List.nodup_append.mp nd').1 l (by rw [mset_mset, show putN (Sum.inr k) ks = ks ++ [sk k] from if_neg hk, show putX (Sum.inr k) y ks vs = vs ++ [y] from putX_new hl hk]; exact q)
theorem shl_own {b : Int} (hb : b = 3 ∨ b = 1200) {k : Nat} (hk : k < 7) : CShl b (k : Nat) ∧ 0 < b * 2 ^ ((k : Nat) : Int).toNat ∧ (b * 2 ^ ((k : Nat) : Int).toNat).natAbs < 2 ^ 20 := by
  have : k = 0 ∨ k = 1 ∨ k = 2 ∨ k = 3 ∨ k = 4 ∨ k = 5 ∨ k = 6 := by omega
  rcases hb with rfl | rfl <;> rcases this with rfl | rfl | rfl | rfl | rfl | rfl | rfl <;> exact ⟨⟨by decide, by decide +kernel⟩, by decide, by decide⟩
def sp__law_own : SpQ := fun xs M Q _ => ∃ c : Int, xs = [.int c] ∧ ∀ (p : Addr) (M' : Mem) (r : Int) (y : Wy) (l m : Int) (U C : List Str), M p = none → (∀ b, b ≠ p → M' b = M b) → OwnD M' p r y l m U C → (Sel U ∧ Sel C) → ((1 ≤ r ∧ r ≤ 24) ∧ (-60 ≤ l ∧ l ≤ 0) ∧ 0 ≤ m ∧ m ≤ 60) → Q (.ref p) M'
theorem sp__law_own_len : ∀ xs M Q E, sp__law_own xs M Q E → xs.length = 1 := fun xs M Q E ⟨_, h, _⟩ => by rw [h]; rfl
theorem ok__law_own (T : Tx K mg) : FnQ P w K mg base 2 T.a__law_own T.d__law_own ["_law_cell"] sp__law_own := by
  refine okQ T.F__law_own sc__law_own sp__law_own_len (fun cdv A outer s0 H0 E hr => ?_)
  have tk := takes_of (X := cxOf (L2.CX P w) P w K mg base ["_law_cell", "_law_ways", "_law_signals", "_law_more", "_law_own_here", "_law_k"] "_law_own" (defScope s__law_own) T.a__law_own cdv A outer s0 H0 E) (E := E) rfl rfl rfl rfl
  have po := passes_of (X := cxOf (L2.CX P w) P w K mg base ["_law_cell", "_law_ways", "_law_signals", "_law_more", "_law_own_here", "_law_k"] "_law_own" (defScope s__law_own) T.a__law_own cdv A outer s0 H0 E) rfl
  refine ⟨_, (qss_cons (qs_set 1 sc__law_own.nd (qe_lst (qa_cons qe_str (qa_cons qe_str (qa_cons qe_str (qa_cons qe_str (qa_cons qe_str (qa_cons qe_str (qa_cons qe_str (qa_cons qe_str qa_nil))))))))))
  (qss_cons (qs_set 2 sc__law_own.nd (qe_lst (qa_cons qe_str (qa_cons qe_str (qa_cons qe_str (qa_cons qe_str (qa_cons qe_str (qa_cons qe_str (qa_cons qe_str qa_nil)))))))))
  (qss_cons (qs_set 3 sc__law_own.nd (qe_call (ok__law_mixed T) hr T.m__law_mixed T.F__law_mixed.kp T.b__law_mixed tk (qa_cons (qv 0) (qa_cons qe_int qa_nil))))
  (qss_cons (qs_set 4 sc__law_own.nd (qe_dsp (kts := [("room", _), ("way", _)]) (pps_cons pe_str (qe_bin oq_add qe_int (qe_bin oq_mod (qv 3) qe_int)) (pps_cons pe_str (qe_ix (qv 1) (qe_bin oq_mod (qe_bin oq_div (qv 3) qe_int) qe_int)) pps_nil)) (by show ((["room", "way"] : List Str)).Nodup; decide) rfl rfl (List.cons_ne_nil _ _) (by decide) (by show 2 ≤ 15; decide)))
  (qss_cons (qs_if (qt_cmp (oq_eq hr.units) (qe_bin oq_mod (qe_bin oq_div (qv 3) qe_int) qe_int) qe_int)
  (qss_one (qs_dput (hu1 hr) (qv 4) qe_str (qe_bin oq_add qe_int (qe_bin oq_mod (qe_bin oq_div (qv 3) qe_int) qe_int))))
  qss_nil)
  (qss_cons (qs_set 3 sc__law_own.nd (qe_call (ok__law_mixed T) hr T.m__law_mixed T.F__law_mixed.kp T.b__law_mixed tk (qa_cons (qv 0) (qa_cons qe_int qa_nil))))
  (qss_cons (qs_dput (hu1 hr) (qv 4) qe_str (qe_ix (qe_lst (qa_cons (qe_neg qe_int) (qa_cons (qe_bin oq_sub qe_int (qe_bin oq_mod (qe_bin oq_div (qv 3) qe_int) qe_int)) (qa_cons (qe_bin oq_sub qe_int (qe_bin oq_mod (qe_bin oq_div (qv 3) qe_int) qe_int)) qa_nil)))) (qe_bin oq_mod (qv 3) qe_int)))
  (qss_cons (qs_dput (hu1 hr) (qv 4) qe_str (qe_ix (qe_lst (qa_cons qe_int (qa_cons (qe_bin oq_mod (qe_bin oq_div (qv 3) qe_int) qe_int) (qa_cons (qe_bin oq_mod (qe_bin oq_div (qv 3) qe_int) qe_int) qa_nil)))) (qe_bin oq_mod (qe_bin oq_div (qv 3) qe_int) qe_int)))
  (qss_cons (qs_dput (hu1 hr) (qv 4) qe_str (qe_bin oq_add (qe_bin oq_sub (qe_dget (hu1 hr) (qv 4) qe_str) (qe_dget (hu1 hr) (qv 4) qe_str)) qe_int))
  (qss_cons (qs_set 3 sc__law_own.nd (qe_call (ok__law_mixed T) hr T.m__law_mixed T.F__law_mixed.kp T.b__law_mixed tk (qa_cons (qv 0) (qa_cons qe_int qa_nil))))
  (qss_cons (qs_dput (hu1 hr) (qv 4) qe_str (qe_lcR1 (own := [("_law_k", 5)]) (j := 5) rfl sc__law_own.nd T.n_range (qa_cons qe_int qa_nil) (by decide) (blkOk_by (own := [("_law_k", 5)]) (N := ["_law_cell", "_law_ways", "_law_signals", "_law_more", "_law_own_here", "_law_k"]) (sc := defScope s__law_own) (by decide +kernel)) (fun _ _ _ _ _ => pg_name (i := 5) sc__law_own.nd rfl (Or.inl rfl)) (fun _ _ _ _ _ => (qts_one (qt_w (qw_and (qt_cmp (oq_eq hr.units) (qe_bin oq_mod (qv 3) qe_int) qe_int) (qw_one_and (qt_cmp (oq_eq hr.units) (qe_bin oq_mod (qe_bin oq_div (qv 3) (qe_bin oq_shl qe_int (qv 5))) qe_int) qe_int)))))) (fun _ _ _ _ _ => (qe_ix (qv 2) (qv 5)))))
  (qss_cons (qs_dput (hu1 hr) (qv 4) qe_str (qe_lcR1 (own := [("_law_k", 5)]) (j := 5) rfl sc__law_own.nd T.n_range (qa_cons qe_int qa_nil) (by decide) (blkOk_by (own := [("_law_k", 5)]) (N := ["_law_cell", "_law_ways", "_law_signals", "_law_more", "_law_own_here", "_law_k"]) (sc := defScope s__law_own) (by decide +kernel)) (fun _ _ _ _ _ => pg_name (i := 5) sc__law_own.nd rfl (Or.inl rfl)) (fun _ _ _ _ _ => (qts_one (qt_w (qw_and (qt_cmp (oq_eq hr.units) (qe_bin oq_mod (qe_bin oq_div (qv 3) qe_int) qe_int) qe_int) (qw_one_and (qt_cmp (oq_eq hr.units) (qe_bin oq_mod (qe_bin oq_div (qv 3) (qe_bin oq_shl qe_int (qv 5))) qe_int) qe_int)))))) (fun _ _ _ _ _ => (qe_ix (qv 2) (qv 5)))))
  (qss_one (qs_ret (qv 4))))))))))))))), ?_⟩
  clear tk po
  clear hr
  rintro xs M Q E ⟨c, rfl, k⟩
  have hx := mixed_range c 30
  walk_at "s"
  refine ⟨_, _, rfl, by decide, ?_⟩
  walk_at "s"
  refine dspB_of fun p hp => ?_
  walk_at "s"
  refine ⟨_, rfl, by mul_fits, ?_⟩
  obtain ⟨v, hv, e⟩ := atI_mem (xs := [PV.str "half even", PV.str "down", PV.str "up", PV.str "floor", PV.str "ceiling", PV.str "half up", PV.str "half down", PV.str "five up"]) (i := mixed c 30 / 6 % 8) (by omega) (by simp only [List.length_cons, List.length_nil]; omega)
  have hv : ∃ y : Wy, v = .str (Str.ofString y.name) := by
    simp only [List.mem_cons, List.not_mem_nil, or_false] at hv
    rcases hv with rfl | rfl | rfl | rfl | rfl | rfl | rfl | rfl
    · exact ⟨.halfEven, rfl⟩
    · exact ⟨.down, rfl⟩
    · exact ⟨.up, rfl⟩
    · exact ⟨.floor, rfl⟩
    · exact ⟨.ceiling, rfl⟩
    · exact ⟨.halfUp, rfl⟩
    · exact ⟨.halfDown, rfl⟩
    · exact ⟨.fiveUp, rfl⟩
  obtain ⟨y, rfl⟩ := hv
  walk_at "s"
  rw [e]
  clear e
  walk_at "s"
  refine seq_cut (fun env M' => ∃ r : Int, (1 ≤ r ∧ r ≤ 24) ∧ M' = mset M p (.dic [sk "room", sk "way"] [.int r, .str (Str.ofString y.name)]) ∧ env = [some (.int c), some (.lst [.str "half even", .str "down", .str "up", .str "floor", .str "ceiling", .str "half up", .str "half down", .str "five up"]), some (.lst (sigs.map PV.str)), some (.int (mixed c 30)), some (.ref p), none]) (fun R hR => ?_) ?_
  · walk_at "q"
    refine ⟨by mul_fits, iteP_of (fun h => ?_) (fun h => ?_)⟩
    · walk_at "q"
      refine ⟨by mul_fits, ?_⟩
      refine put_dic mset_same rfl (by decide +kernel) (len_lt' (by decide)) ?_
      rw [mset_mset]
      refine hR _ _ ⟨1 + mixed c 30 / 192 % 24, by omega, ?_, rfl⟩
      rw [show putN (Sum.inr (Str.ofString "room") : Key) [Sum.inr (Str.ofString "room"), Sum.inr (Str.ofString "way")] = [sk "room", sk "way"] by decide +kernel, show ∀ v a b : PV, putX (Sum.inr (Str.ofString "room") : Key) v [Sum.inr (Str.ofString "room"), Sum.inr (Str.ofString "way")] [a, b] = [v, b] from fun v a b => if_pos rfl]
    · walk_at "q"
      exact hR _ _ ⟨1 + mixed c 30 % 6, by omega, rfl, rfl⟩
  rintro _ _ ⟨r, hr, rfl, rfl⟩
  walk_at "s"
  have hx1 := mixed_range c 31
  refine ⟨_, _, rfl, by decide, ?_⟩
  walk_at "s"
  refine ⟨by mul_fits, by mul_fits, ?_⟩
  obtain ⟨v, hv, e⟩ := atI_mem (xs := [PV.int (-60), PV.int (0 - mixed c 31 / 9 % 8), PV.int (0 - mixed c 31 / 9 % 61)]) (i := mixed c 31 % 3) (by omega) (by simp only [List.length_cons, List.length_nil]; omega)
  have hv : ∃ l : Int, v = .int l ∧ -60 ≤ l ∧ l ≤ 0 := by
    simp only [List.mem_cons, List.not_mem_nil, or_false] at hv
    rcases hv with rfl | rfl | rfl <;> exact ⟨_, rfl, by omega, by omega⟩
  obtain ⟨l, rfl, hl⟩ := hv
  rw [e]
  clear e
  walk_at "s"
  refine put_next (by decide +kernel) rfl (len_lt' (by decide)) ?_
  simp only [List.cons_append, List.nil_append]
  walk_at "s"
  refine ⟨by mul_fits, by mul_fits, by mul_fits, ?_⟩
  obtain ⟨v, hv, e⟩ := atI_mem (xs := [PV.int 60, PV.int (mixed c 31 / 600 % 8), PV.int (mixed c 31 / 600 % 61)]) (i := mixed c 31 / 3 % 3) (by omega) (by simp only [List.length_cons, List.length_nil]; omega)
  have hv : ∃ l : Int, v = .int l ∧ 0 ≤ l ∧ l ≤ 60 := by
    simp only [List.mem_cons, List.not_mem_nil, or_false] at hv
    rcases hv with rfl | rfl | rfl <;> exact ⟨_, rfl, by omega, by omega⟩
  obtain ⟨m, rfl, hm⟩ := hv
  rw [e]
  clear e
  walk_at "s"
  refine put_next (by decide +kernel) rfl (len_lt' (by decide)) ?_
  simp only [List.cons_append, List.nil_append]
  walk_at "s"
  rw [dget_of (v := .int l) mset_same rfl (by simp (decide := true) [getX])]
  walk_at "s"
  rw [dget_of (v := .int r) mset_same rfl (by simp (decide := true) [getX])]
  walk_at "s"
  refine put_next (by decide +kernel) rfl (len_lt' (by decide)) ?_
  simp only [List.cons_append, List.nil_append]
  walk_at "s"
  have hx2 := mixed_range c 32
  refine ⟨_, _, rfl, by decide, ?_⟩
  walk_at "s"
  refine ⟨by decide, ?_⟩
  refine lcL_of (pickS (fun k => mixed c 32 % 3 = 1 ∧ mixed c 32 / (3 * 2 ^ ((k : Nat) : Int).toNat) % 2 = 1) sigs) (by decide) (fun x hx M2 hM2 => ?_) ?_
  · obtain ⟨k, s, rfl, hk, e1, e2⟩ := pick_in (P := fun k => mixed c 32 % 3 = 1 ∧ mixed c 32 / (3 * 2 ^ ((k : Nat) : Int).toNat) % 2 = 1) hx
    rw [e2]
    clear e2
    walk_at "q"
    refine iteP_of (fun h1 => ?_) (fun h1 => ?_)
    · walk_at "q"
      have hs := shl_own (b := 3) (.inl rfl) hk
      refine ⟨hs.1, divw (n := 20) hs.2.1 hs.2.2 (by decide), iteP_of (fun h2 => ?_) (fun h2 => ?_)⟩
      · walk_at "q"
        rw [show atI [PV.str (Str.ofString "void"), PV.str (Str.ofString "split"), PV.str (Str.ofString "burst"), PV.str (Str.ofString "sunk"), PV.str (Str.ofString "faint"), PV.str (Str.ofString "off"), PV.str (Str.ofString "cut")] ((k : Nat) : Int) = some (.str s) from e1]
        walk_at "q"
        exact if_pos ⟨h1, h2⟩
      · walk_at "q"
        exact if_neg (fun z => h2 z.2)
    · walk_at "q"
      exact if_neg (fun z => h1 z.1)
  rw [pick_range]
  have hU := selF_Sel (fun k => mixed c 32 % 3 = 1 ∧ mixed c 32 / (3 * 2 ^ ((k : Nat) : Int).toNat) % 2 = 1)
  generalize selF (fun k => mixed c 32 % 3 = 1 ∧ mixed c 32 / (3 * 2 ^ ((k : Nat) : Int).toNat) % 2 = 1) 0 sigs = U at *
  walk_at "s"
  refine put_next (by decide +kernel) rfl (len_lt' (by decide)) ?_
  simp only [List.cons_append, List.nil_append]
  walk_at "s"
  refine ⟨by decide, ?_⟩
  refine lcL_of (pickS (fun k => mixed c 32 / 400 % 3 = 1 ∧ mixed c 32 / (1200 * 2 ^ ((k : Nat) : Int).toNat) % 2 = 1) sigs) (by decide) (fun x hx M2 hM2 => ?_) ?_
  · obtain ⟨k, s, rfl, hk, e1, e2⟩ := pick_in (P := fun k => mixed c 32 / 400 % 3 = 1 ∧ mixed c 32 / (1200 * 2 ^ ((k : Nat) : Int).toNat) % 2 = 1) hx
    rw [e2]
    clear e2
    walk_at "q"
    refine ⟨by mul_fits, iteP_of (fun h1 => ?_) (fun h1 => ?_)⟩
    · walk_at "q"
      have hs := shl_own (b := 1200) (.inr rfl) hk
      refine ⟨hs.1, divw (n := 20) hs.2.1 hs.2.2 (by decide), iteP_of (fun h2 => ?_) (fun h2 => ?_)⟩
      · walk_at "q"
        rw [show atI [PV.str (Str.ofString "void"), PV.str (Str.ofString "split"), PV.str (Str.ofString "burst"), PV.str (Str.ofString "sunk"), PV.str (Str.ofString "faint"), PV.str (Str.ofString "off"), PV.str (Str.ofString "cut")] ((k : Nat) : Int) = some (.str s) from e1]
        walk_at "q"
        exact if_pos ⟨h1, h2⟩
      · walk_at "q"
        exact if_neg (fun z => h2 z.2)
    · walk_at "q"
      exact if_neg (fun z => h1 z.1)
  rw [pick_range]
  have hC := selF_Sel (fun k => mixed c 32 / 400 % 3 = 1 ∧ mixed c 32 / (1200 * 2 ^ ((k : Nat) : Int).toNat) % 2 = 1)
  generalize selF (fun k => mixed c 32 / 400 % 3 = 1 ∧ mixed c 32 / (1200 * 2 ^ ((k : Nat) : Int).toNat) % 2 = 1) 0 sigs = C at *
  walk_at "s"
  refine put_next (by decide +kernel) rfl (len_lt' (by decide)) ?_
  simp only [List.cons_append, List.nil_append]
  walk_at "s"
  exact k p _ r y l m U C hp (fun b hb => mset_ne hb) mset_same ⟨hU, hC⟩ ⟨hr, hl, hm⟩

/-! _law_context -/
def sp__law_context (T : Tx K mg) : SpQ := fun xs M Q _ => ∃ (o : Addr) (r : Int) (y : Wy) (l m : Int) (U C : List Str), xs = [.ref o] ∧ OwnD M o r y l m U C ∧ (Sel U ∧ Sel C) ∧ ((1 ≤ r ∧ r ≤ 24) ∧ (-60 ≤ l ∧ l ≤ 0) ∧ 0 ≤ m ∧ m ≤ 60) ∧
  ∀ a d1 d2 M' F C', M a = none → (M d1 = none ∧ M d2 = none) → (∀ b, M b ≠ none → M' b = M b) → Ctx T M' a d1 d2 y r l m F C' → flagsOf F = U → flagsOf C' = C → F.length ≤ 7 → Q (.ref a) M'
theorem sp__law_context_len (T : Tx K mg) : ∀ xs M Q E, sp__law_context T xs M Q E → xs.length = 1 := fun xs M Q E ⟨_, _, _, _, _, _, _, h, _⟩ => by rw [h]; rfl
theorem ok__law_context (T : Tx K mg) : FnQ P w K mg base 5 T.a__law_context T.d__law_context ["_law_own_here"] (sp__law_context T) := by
  refine okQ T.F__law_context sc__law_context (sp__law_context_len T) (fun cdv A outer s0 H0 E hr => ?_)
  have tk := takes_of (X := cxOf (L2.CX P w) P w K mg base ["_law_own_here", "_law_context_here"] "_law_context" (defScope s__law_context) T.a__law_context cdv A outer s0 H0 E) (E := E) rfl rfl rfl rfl
  have po := passes_of (X := cxOf (L2.CX P w) P w K mg base ["_law_own_here", "_law_context_here"] "_law_context" (defScope s__law_context) T.a__law_context cdv A outer s0 H0 E) rfl
  refine ⟨_, (qss_cons (qs_set 1 sc__law_context.nd (qe_makeW (dvs := []) (dps := []) T.mk_Context (ok_Context___init__ T) hr T.m_Context T.b_Context_4 (fun _ => Reps.nil) tk (qa_cons (qe_dget (hu1 hr) (qv 0) qe_str) (qa_cons (qe_dget (hu1 hr) (qv 0) qe_str) (qa_cons (qe_dget (hu1 hr) (qv 0) qe_str) (qa_cons (qe_dget (hu1 hr) (qv 0) qe_str) qa_nil))))))
  (qss_cons (qs_expr (qe_meth (qv 1) T.i_Context.cl T.M_Context_raised (ok_Context_raised T) (hr.mono (by decide)) T.b_Context_raised tk (qa_cons (qe_callT (T := "list") cq_list T.n_list (qa_cons (qe_dget (hu1 hr) (qv 0) qe_str) qa_nil)) qa_nil)))
  (qss_cons (qs_expr (qe_meth (qv 1) T.i_Context.cl T.M_Context_trap (ok_Context_trap T) (hr.mono (by decide)) T.b_Context_trap tk (qa_cons (qe_rev (qe_dget (hu1 hr) (qv 0) qe_str)) qa_nil)))
  (qss_one (qs_ret (qv 1)))))), ?_⟩
  clear tk po
  clear hr
  rintro xs M Q E ⟨o, r, y, l, m, U, C, rfl, ho, ⟨hU, hC⟩, ⟨hr, hl, hm⟩, k⟩
  walk_at "q"
  rw [own_room ho]
  walk_at "q"
  rw [own_way ho]
  walk_at "q"
  rw [own_least ho]
  walk_at "q"
  rw [own_most ho]
  walk_at "q"
  refine makW_of fun x hx => ?_
  refine ⟨x, y, r, l, m, .inl rfl, mset_same, hr, hl, hm, fun d1 d2 M' hM h1 h2 c => ?_⟩
  have xo : o ≠ x := by rintro rfl; rw [OwnD, hx] at ho; cases ho
  have ho' : OwnD M' o r y l m U C := by
    show M' o = _
    rw [hM o xo (by rw [mset_ne xo, ho]; exact fun z => nomatch z), mset_ne xo]
    exact ho
  walk_at "q"
  rw [mthw_Context_raised T c.self]
  walk_at "q"
  rw [own_up ho']
  walk_at "q"
  have hl7 := hU.len
  refine ⟨x, d1, d2, y, r, l, m, [], [], U, rfl, c, by show 0 + U.length ≤ 1000; omega, fun M2 hM2 c2 => ?_⟩
  have fn : firstT U [] = none := by
    unfold firstT
    rw [List.filter_eq_nil_iff.mpr (fun n _ => by simp)]
    rfl
  unfold TrapQ
  rw [fn]
  dsimp only
  have od : o ≠ d1 := by
    obtain ⟨v1, e1⟩ := c.fl
    rintro rfl
    rw [OwnD, e1] at ho'
    rw [mset_ne xo, ho] at h1
    cases h1
  have ho2 : OwnD M2 o r y l m U C := by show M2 o = _; rw [hM2 o od]; exact ho'
  walk_at "q"
  rw [mthw_Context_trap T c2.self]
  walk_at "q"
  rw [own_trapped ho2]
  walk_at "q"
  rw [← List.map_reverse]
  have hc7 := hC.len
  refine ⟨x, d1, d2, y, r, l, m, _, [], C.reverse, rfl, c2, ⟨fun n hn => hC.sub n (List.mem_reverse.mp hn), by rw [List.length_reverse]; omega⟩, fun q M3 hq hM3 c3 => ?_⟩
  walk_at "q"
  have dx : d1 ≠ x := by rintro rfl; rw [mset_same] at h1; cases h1
  have n1 : M d1 = none := by rw [mset_ne dx] at h1; exact h1
  refine k x d1 q M3 _ _ hx ⟨n1, ?_⟩ (fun b hb => ?_) c3 ?_ ?_ ?_
  · refine Classical.byContradiction fun hq' => ?_
    have bx : q ≠ x := by rintro rfl; exact hq' hx
    have b1 : q ≠ d1 := by rintro rfl; exact hq' n1
    have e1 : M' q = M q := by rw [hM q bx (by rw [mset_ne bx]; exact hq'), mset_ne bx]
    rw [hM2 q b1, e1] at hq
    exact hq' hq
  · have bx : b ≠ x := by rintro rfl; exact hb hx
    have b1 : b ≠ d1 := by rintro rfl; rw [mset_ne bx] at h1; exact hb h1
    have e1 : M' b = M b := by rw [hM b bx (by rw [mset_ne bx]; exact hb), mset_ne bx]
    have e2 : M2 b = M b := by rw [hM2 b b1, e1]
    rw [hM3 b bx (by rw [e2]; exact hb), e2]
  · refine (flags_cong (B := U) fun x => ?_).trans hU
    rw [raise_mem]
    simp
  · refine (flags_cong (B := C) fun x => ?_).trans hC
    rw [raise_mem, List.mem_reverse]
    simp
  · exact Nat.le_trans raise_length (by show 0 + U.length ≤ 7; omega)

/-! _law_gone -/
def sp__law_gone (T : Tx K mg) : SpQ := fun xs M Q _ => ∃ (a d1 d2 : Addr) (y : Wy) (r l m : Int) (F C : List Str) (n : Nu) (s : Int), xs = [.ref a, n.pv T.c_Number, .int s] ∧ Ctx T M a d1 d2 y r l m F C ∧ n.V ∧ (0 ≤ s ∧ s ≤ 1) ∧ Q ((nexV r l m n s).pv T.c_Number) M
theorem sp__law_gone_len (T : Tx K mg) : ∀ xs M Q E, sp__law_gone T xs M Q E → xs.length = 3 := fun xs M Q E ⟨_, _, _, _, _, _, _, _, _, _, _, h, _⟩ => by rw [h]; rfl
theorem ok__law_gone (T : Tx K mg) : FnQ P w K mg base 8 T.a__law_gone T.d__law_gone ["_law_context_here", "_law_number_here", "_law_sign"] (sp__law_gone T) := by
  refine okQ T.F__law_gone sc__law_gone (sp__law_gone_len T) (fun cdv A outer s0 H0 E hr => ?_)
  have tk := takes_of (X := cxOf (L2.CX P w) P w K mg base ["_law_context_here", "_law_number_here", "_law_sign"] "_law_gone" (defScope s__law_gone) T.a__law_gone cdv A outer s0 H0 E) (E := E) rfl rfl rfl rfl
  have po := passes_of (X := cxOf (L2.CX P w) P w K mg base ["_law_context_here", "_law_number_here", "_law_sign"] "_law_gone" (defScope s__law_gone) T.a__law_gone cdv A outer s0 H0 E) rfl
  refine ⟨_, (qss_cons (qs_if (qt_cmp (oq_eq hr.units) (qv 2) qe_int)
  (qss_one (qs_ret (qe_call (ok_next_up T) hr T.m_next_up T.F_next_up.kp T.b_next_up tk (qa_cons (qv 0) (qa_cons (qv 1) qa_nil)))))
  qss_nil)
  (qss_one (qs_ret (qe_call (ok_next_down T) hr T.m_next_down T.F_next_down.kp T.b_next_down tk (qa_cons (qv 0) (qa_cons (qv 1) qa_nil)))))), ?_⟩
  clear tk po
  clear hr
  rintro xs M Q E ⟨a, d1, d2, y, r, l, m, F, C, n, s, rfl, c, hn, hs, k⟩
  walk_at "q"
  refine iteP_of (fun h => ?_) (fun h => ?_)
  · subst h
    walk_at "q"
    exact ⟨a, d1, d2, y, r, l, m, F, C, n, rfl, c, hn, k⟩
  · have e : s = 1 := by omega
    subst e
    walk_at "q"
    exact ⟨a, d1, d2, y, r, l, m, F, C, n, rfl, c, hn, k⟩

/-! law_lam0 -/
/-- what the lambda does -/
def sp_law_lam0 (T : Tx K mg) : SpQ := fun xs M Q E => ∃ (n : Nu) (s : Int) (a : Addr) (d1 d2 : Addr) (y : Wy) (r l m : Int) (F C : List Str), xs = [.int s, n.pv T.c_Number, .ref a] ∧ Ctx T M a d1 d2 y r l m F C ∧ n.V ∧ (0 ≤ s ∧ s ≤ 1) ∧ OpP T a d1 d2 y r l m F C M (nexV r l m n s, []) Q E
theorem sp_law_lam0_len (T : Tx K mg) : ∀ xs M Q E, sp_law_lam0 T xs M Q E → xs.length = 3 := fun xs M Q E ⟨_, _, _, _, _, _, _, _, _, _, _, h, _⟩ => by rw [h]; rfl
theorem ok_law_lam0 (T : Tx K mg) : LamK P w K mg base 8 L_law_lam0 [] ["_law_sign", "_law_first", "_law_context_here"] (sp_law_lam0 T) := by
  refine ⟨ln_law_lam0, by decide +kernel, fun us cl pm cv ctv h => match us, h with | [], _ => rfl, fun cl f c' A outer s0 H0 E hr => ?_⟩
  have tk := takes_of (X := (lamC P w K mg base ["_law_sign", "_law_first", "_law_context_here"] L_law_lam0 f c' cl A outer s0 H0 E)) (E := E) rfl rfl rfl rfl
  refine ⟨_, (qe_call (ok__law_gone T) hr T.m__law_gone T.F__law_gone.kp T.b__law_gone tk (qa_cons (qv 2) (qa_cons (qv 1) (qa_cons (qv 0) qa_nil)))), ?_⟩
  clear tk
  clear hr
  rintro xs M Q E ⟨n, s, a, d1, d2, y, r, l, m, F, C, rfl, c, hn, hs, k⟩
  walk_at "q"
  exact ⟨a, d1, d2, y, r, l, m, F, C, n, s, rfl, c, hn, hs, k.still c⟩

/-! _law_tried -/
/-- what a deed comes to -/
def DeedIs (T : Tx K mg) (a d1 d2 : Addr) (y : Wy) (r l m : Int) (F C : List Str) (vs : List PV) (res : Res) : Prop :=
  ∀ M' Q E, Ctx T M' a d1 d2 y r l m F C → OpP T a d1 d2 y r l m F C M' res Q E → sp_law_lam0 T vs M' Q E
/-- told, or the signal that is trapped -/
def toldP (res : Res) (C : List Str) : PV := match firstT res.2 C with
  | none => res.1.tup
  | some n => .tup [.str "trapped", .str n]
def sp__law_tried (T : Tx K mg) : SpQ := fun xs M Q _ => ∃ (f : Addr) (cl : Clo) (vs : List PV) (a d1 d2 : Addr) (y : Wy) (r l m : Int) (F C : List Str) (res : Res), xs = [.ref f] ∧ M f = some (.lam L_law_lam0 cl (some vs)) ∧ Ctx T M a d1 d2 y r l m F C ∧ DeedIs T a d1 d2 y r l m F C vs res ∧
  ∀ M', Keep (fun b => b = d1) M M' → M' f = some (.lam L_law_lam0 cl (some vs)) → Ctx T M' a d1 d2 y r l m (raiseF F res.2) C → Q (toldP res C) M'
theorem sp__law_tried_len (T : Tx K mg) : ∀ xs M Q E, sp__law_tried T xs M Q E → xs.length = 1 := fun xs M Q E ⟨_, _, _, _, _, _, _, _, _, _, _, _, _, h, _⟩ => by rw [h]; rfl
theorem ok__law_tried (T : Tx K mg) : FnQ P w K mg base 10 T.a__law_tried T.d__law_tried ["_law_deed"] (sp__law_tried T) := by
  refine okQ T.F__law_tried sc__law_tried (sp__law_tried_len T) (fun cdv A outer s0 H0 E hr => ?_)
  have tk := takes_of (X := cxOf (L2.CX P w) P w K mg base ["_law_deed", "error"] "_law_tried" (defScope s__law_tried) T.a__law_tried cdv A outer s0 H0 E) (E := E) rfl rfl rfl rfl
  have po := passes_of (X := cxOf (L2.CX P w) P w K mg base ["_law_deed", "error"] "_law_tried" (defScope s__law_tried) T.a__law_tried cdv A outer s0 H0 E) rfl
  refine ⟨_, (qss_one (qs_tryAs (D := T.c_Trapped) (i := 1) (c := .ref T.c_Trapped) rfl rfl sc__law_tried.nd rfl rfl ⟨rfl, by decide, .inl T.m_Trapped⟩ tk (fun W pn xe tk po => (qss_one (qs_ret (qe_call (ok_told T) (hr.mono (by decide)) T.m_told T.F_told.kp T.b_told tk (qa_cons (qe_act0 (i := 0) (ok_law_lam0 T) hr tk) qa_nil))))) (fun a oe d pn hz hv => (qss_one (qs_ret (qe_tup (qa_cons qe_str (qa_cons (qe_sig T.trap hz hv (qv 1)) qa_nil)))))))), ?_⟩
  clear tk po
  clear hr
  rintro xs M Q E ⟨f, cl, vs, a, d1, d2, y, r, l, m, F, C, res, rfl, hf, c, hd, k⟩
  walk_at "q"
  refine ⟨f, cl, vs, rfl, hf, ?_⟩
  walk_at "q"
  refine ⟨hf, rfl, hd _ _ _ c.calm fun M' hM cM => ?_⟩
  have fd : f ≠ d1 := by
    obtain ⟨v1, e1⟩ := c.fl
    rintro rfl
    rw [e1] at hf
    cases hf
  have hf0 : calmL M f = some (.lam L_law_lam0 cl none) := by unfold calmL; rw [hf]
  have hf' : M' f = some (.lam L_law_lam0 cl none) := by rw [hM f fd (by rw [hf0]; exact fun z => nomatch z)]; exact hf0
  have fc : f ≠ a ∧ f ≠ d2 := by
    obtain ⟨v2, e2⟩ := c.ca
    refine ⟨?_, ?_⟩
    · rintro rfl; rw [c.self] at hf; cases hf
    · rintro rfl; rw [e2] at hf; cases hf
  have cM2 : Ctx T (mset M' f (.lam L_law_lam0 cl (some vs))) a d1 d2 y r l m (raiseF F res.2) C := cM.to (by rw [mset_ne fc.1.symm]) (by rw [mset_ne fd.symm]) (by rw [mset_ne fc.2.symm])
  have kk := k _ (fun b mm hb e hl => by
    have bf : b ≠ f := by rintro rfl; rw [hf] at e; cases e; exact hl _ _ _ rfl
    have e1 := calm_is e hl
    rw [mset_ne bf, hM b hb (by rw [e1]; exact fun z => nomatch z)]
    exact e1) mset_same cM2
  unfold toldP at kk
  unfold TrapQ
  cases hft : firstT res.2 C with
  | none =>
    rw [hft] at kk
    dsimp only at kk ⊢
    refine ⟨hf', ?_⟩
    walk_at "q"
    refine ⟨_, _, _, _, rfl, ?_⟩
    walk_at "q"
    exact kk
  | some n =>
    rw [hft] at kk
    dsimp only at kk ⊢
    refine ⟨hf', ?_⟩
    refine tryX_own T.exm_Trapped_Trapped (fun ea ed ha => ?_)
    walk_at "q"
    exact kk

/-! _law_stands -/
def sp__law_stands (T : Tx K mg) : SpQ := fun xs M Q _ => ∃ (f : Addr) (cl : Clo) (vs : List PV) (o a d1 d2 : Addr) (y : Wy) (r l m : Int) (F C : List Str) (res : Res) (N : List Str), xs = [.ref a, .ref o, .ref f, .tup [res.1.tup, .lst (N.map PV.str)]] ∧ M f = some (.lam L_law_lam0 cl (some vs)) ∧ Ctx T M a d1 d2 y r l m F C ∧ (OwnD M o r y l m (flagsOf F) (flagsOf C) ∧ o ≠ d1 ∧ o ≠ d2) ∧
  (flagsOf N = flagsOf res.2 ∧ N.length ≤ 7 ∧ res.1.Sm ∧ (res.1.k = "plain" ∨ res.1.k = "end" ∨ res.1.k = "none")) ∧ DeedIs T a d1 d2 y r l m F C vs res ∧
  ∀ M', Keep (fun b => b = d1 ∨ b = o) M M' → M' f = some (.lam L_law_lam0 cl (some vs)) → Ctx T M' a d1 d2 y r l m (raiseF F res.2) C → OwnD M' o r y l m (flagsOf (raiseF F res.2)) (flagsOf C) → Q (.bl true) M'
theorem sp__law_stands_len (T : Tx K mg) : ∀ xs M Q E, sp__law_stands T xs M Q E → xs.length = 4 := fun xs M Q E ⟨_, _, _, _, _, _, _, _, _, _, _, _, _, _, _, h, _⟩ => by rw [h]; rfl
theorem ok__law_stands (T : Tx K mg) : FnG P w K mg base 11 T.a__law_stands T.d__law_stands ["_law_context_here", "_law_own_here", "_law_deed", "_law_due_here"] (sp__law_stands T) := by
  refine okQG T.F__law_stands sc__law_stands (sp__law_stands_len T) (fun A outer s0 H0 E hgd hr => ?_)
  have tk := takes_of (X := cxOf (L2.CX P w) P w K mg base ["_law_context_here", "_law_own_here", "_law_deed", "_law_due_here", "_law_signals", "_law_caught", "_law_wanted", "_law_found", "_law_name"] "_law_stands" (defScope s__law_stands) T.a__law_stands T.d__law_stands.code A outer s0 H0 E) (E := E) rfl rfl rfl rfl
  have po := passes_of (X := cxOf (L2.CX P w) P w K mg base ["_law_context_here", "_law_own_here", "_law_deed", "_law_due_here", "_law_signals", "_law_caught", "_law_wanted", "_law_found", "_law_name"] "_law_stands" (defScope s__law_stands) T.a__law_stands T.d__law_stands.code A outer s0 H0 E) rfl
  refine ⟨_, (qss_cons (qs_set 4 sc__law_stands.nd (qe_lcT (own := [("_law_name", 8)]) (j := 8) rfl sc__law_stands.nd (qe_gtup (ys := gl_SIGNALS) T.g_SIGNALS T.k_SIGNALS) (by decide) (blkOk_by (own := [("_law_name", 8)]) (N := ["_law_context_here", "_law_own_here", "_law_deed", "_law_due_here", "_law_signals", "_law_caught", "_law_wanted", "_law_found", "_law_name"]) (sc := defScope s__law_stands) (by decide +kernel)) (fun _ _ _ _ _ => pg_name (i := 8) sc__law_stands.nd rfl (Or.inl rfl)) (fun _ _ _ _ _ => (qts_one (qt_cmp (oq_in hr.units) (qv 8) (qe_ix (qv 3) qe_int)))) (fun _ _ _ _ _ => (qv 8))))
  (qss_cons (qs_dput (hu1 hr) (qv 1) qe_str (qe_lcT (own := [("_law_name", 8)]) (j := 8) rfl sc__law_stands.nd (qe_gtup (ys := gl_SIGNALS) T.g_SIGNALS T.k_SIGNALS) (by decide) (blkOk_by (own := [("_law_name", 8)]) (N := ["_law_context_here", "_law_own_here", "_law_deed", "_law_due_here", "_law_signals", "_law_caught", "_law_wanted", "_law_found", "_law_name"]) (sc := defScope s__law_stands) (by decide +kernel)) (fun _ _ _ _ _ => pg_name (i := 8) sc__law_stands.nd rfl (Or.inl rfl)) (fun _ _ _ _ _ => (qts_one (qt_w (qw_or (qt_cmp (oq_in hr.units) (qv 8) (qe_dget (hu1 hr) (qv 1) qe_str)) (qw_one_or (qt_cmp (oq_in hr.units) (qv 8) (qv 4))))))) (fun _ _ _ _ _ => (qv 8))))
  (qss_cons (qs_lcL 5 (own := [("_law_name", 8)]) (j := 8) rfl sc__law_stands.nd (qv 4) (by decide) (blkOk_by (own := [("_law_name", 8)]) (N := ["_law_context_here", "_law_own_here", "_law_deed", "_law_due_here", "_law_signals", "_law_caught", "_law_wanted", "_law_found", "_law_name"]) (sc := defScope s__law_stands) (by decide +kernel)) (fun _ _ _ _ _ => pg_name (i := 8) sc__law_stands.nd rfl (Or.inl rfl)) (fun _ _ _ _ _ => (qts_one (qt_cmp (oq_in hr.units) (qv 8) (qe_dget (hu1 hr) (qv 1) qe_str)))) (fun _ _ _ _ _ => (qv 8)))
  (qss_cons (qs_set 6 sc__law_stands.nd (qe_if (qt_cmp (oq_eq hr.units) (qv 5) (qe_lst qa_nil)) (qe_ix (qv 3) qe_int) (qe_tup (qa_cons qe_str (qa_cons (qe_ix (qv 5) qe_int) qa_nil)))))
  (qss_cons (qs_set 7 sc__law_stands.nd (qe_call (ok__law_tried T) hr T.m__law_tried T.F__law_tried.kp T.b__law_tried tk (qa_cons (qv 2) qa_nil)))
  (qss_one (qs_ret (qe_and (qe_cmp (oq_eq hr.units) (qv 7) (qv 6)) (qe_and (qe_cmp (oq_eq hr.units) (qe_callT (T := "str") (cq_strD hgd hr.units) T.n_str (qa_cons (qv 7) qa_nil)) (qe_callT (T := "str") (cq_strD hgd hr.units) T.n_str (qa_cons (qv 6) qa_nil))) (qe_one (qe_cmp (oq_eq hr.units) (qe_meth0 (qv 0) T.i_Context.cl T.M_Context_flags (ok_Context_flags T) (hr.mono (by decide)) T.b_Context_flags tk) (qe_dget (hu1 hr) (qv 1) qe_str)))))))))))), ?_⟩
  clear tk po
  clear hr
  rintro xs M Q E ⟨f, cl, vs, o, a, d1, d2, y, r, l, m, F, C, res, N, rfl, hf, c, ⟨ho, od1, od2⟩, ⟨hN, hl7, hsm, hkd⟩, hd, k⟩
  walk_at "q"
  refine lcT_of (keepS N) (by decide) (fun x hx M2 hM2 => ?_) ?_
  · rw [gl_sigs] at hx
    obtain ⟨s, _, rfl⟩ := List.mem_map.mp hx
    walk_at "q"
    rw [inPs_s]
    walk_at "q"
    refine iteP_of (fun h => ?_) (fun h => ?_)
    · walk_at "q"
      exact if_pos h
    · walk_at "q"
      exact if_neg h
  rw [gl_sigs, keepS_map, show (sigs.filter fun s => decide (s ∈ N)) = flagsOf N from rfl, hN]
  walk_at "q"
  refine lcT_of (keepS (flagsOf F ++ flagsOf res.2)) (by decide) (fun x hx M2 hM2 => ?_) ?_
  · obtain ⟨s, _, rfl⟩ := List.mem_map.mp (show x ∈ sigs.map PV.str from hx)
    have ho2 : OwnD M2 o r y l m (flagsOf F) (flagsOf C) := hM2 _ _ ho
    have e : keepS (flagsOf F ++ flagsOf res.2) (.str s) = if s ∈ flagsOf F ++ flagsOf res.2 then some (.str s) else none := rfl
    walk_at "q"
    rw [own_up ho2]
    walk_at "q"
    rw [inPs_s]
    walk_at "q"
    refine iteP_of (fun h => ?_) (fun h => ?_)
    · walk_at "q"
      rw [e]
      exact if_pos (List.mem_append_left _ h)
    · walk_at "q"
      rw [inPs_s]
      walk_at "q"
      refine iteP_of (fun h2 => ?_) (fun h2 => ?_)
      · walk_at "q"
        rw [e]
        exact if_pos (List.mem_append_right _ h2)
      · walk_at "q"
        rw [e]
        exact if_neg (fun z => (List.mem_append.mp z).elim h h2)
  have e2 : List.filterMap (keepS (flagsOf F ++ flagsOf res.2)) (sigs.map PV.str) = (flagsOf (raiseF F res.2)).map PV.str := by
    rw [keepS_map, flags_raise]
    congr 1
    refine List.filter_congr fun x _ => ?_
    rw [Bool.eq_iff_iff]
    simp only [decide_eq_true_eq, Bool.or_eq_true, List.mem_append]
  rw [show [PV.str (Str.ofString "void"), PV.str (Str.ofString "split"), PV.str (Str.ofString "burst"), PV.str (Str.ofString "sunk"), PV.str (Str.ofString "faint"), PV.str (Str.ofString "off"), PV.str (Str.ofString "cut")] = sigs.map PV.str from rfl, e2]
  walk_at "q"
  refine put_dic ho rfl own_nd (len_lt' (by decide)) ?_
  rw [show (Sum.inr (Str.ofString "up") : Key) = sk "up" from rfl, (own_put (r := r) (y := y) (l := l) (m := m) (U := flagsOf F) (C := flagsOf C) ((flagsOf (raiseF F res.2)).map PV.str)).1, (own_put (r := r) (y := y) (l := l) (m := m) (U := flagsOf F) (C := flagsOf C) ((flagsOf (raiseF F res.2)).map PV.str)).2]
  obtain ⟨M1, e1⟩ : ∃ M1, M1 = mset M o (.dic oK [PV.int r, PV.str (Str.ofString y.name), PV.int l, PV.int m, PV.int (l - r + 1), PV.lst ((flagsOf (raiseF F res.2)).map PV.str), PV.lst ((flagsOf C).map PV.str)]) := ⟨_, rfl⟩
  rw [← e1]
  have ho1 : OwnD M1 o r y l m (flagsOf (raiseF F res.2)) (flagsOf C) := by rw [e1]; exact mset_same
  have oa : o ≠ a := by rintro rfl; rw [OwnD, c.self] at ho; cases ho
  have of' : f ≠ o := by rintro rfl; rw [OwnD, hf] at ho; cases ho
  have c1 : Ctx T M1 a d1 d2 y r l m F C := c.to (by rw [e1, mset_ne oa.symm]) (by rw [e1, mset_ne od1.symm]) (by rw [e1, mset_ne od2.symm])
  have hf1 : M1 f = some (.lam L_law_lam0 cl (some vs)) := by rw [e1, mset_ne of']; exact hf
  have k1 : ∀ b, b ≠ o → M1 b = M b := fun b hb => by rw [e1, mset_ne hb]
  clear e1
  walk_at "q"
  refine lcL_of (keepS (flagsOf C)) (by rw [List.length_map]; exact Nat.le_trans (List.length_filter_le _ _) (by decide)) (fun x hx M2 hM2 => ?_) ?_
  · obtain ⟨s, _, rfl⟩ := List.mem_map.mp hx
    have ho2 : OwnD M2 o r y l m (flagsOf (raiseF F res.2)) (flagsOf C) := hM2 _ _ ho1
    walk_at "q"
    rw [own_trapped ho2]
    walk_at "q"
    rw [inPs_s]
    walk_at "q"
    refine iteP_of (fun h => ?_) (fun h => ?_)
    · walk_at "q"
      exact if_pos h
    · walk_at "q"
      exact if_neg h
  rw [keepS_map]
  have hcf : ((flagsOf res.2).filter fun s => decide (s ∈ flagsOf C)).head? = firstT res.2 C := by
    rw [firstT_eq]
    congr 1
    refine List.filter_congr fun x hx => ?_
    rw [decide_eq_decide, flags_mem]
    exact ⟨fun z => z.2, fun z => ⟨(flags_mem.mp hx).1, z⟩⟩
  generalize ((flagsOf res.2).filter fun s => decide (s ∈ flagsOf C)) = ct at *
  cases ct with
  | nil =>
    have hfz : firstT res.2 C = none := hcf.symm
    walk_at "q"
    refine ⟨f, cl, vs, a, d1, d2, y, r, l, m, F, C, res, rfl, hf1, c1, hd, fun M2 hK hf2 c2 => ?_⟩
    have et : toldP res C = .tup [.str (Str.ofString res.1.k), .int res.1.s, .int res.1.f, .int res.1.p] := by unfold toldP; rw [hfz]; rfl
    have e0 : res.1.tup = .tup [.str (Str.ofString res.1.k), .int res.1.s, .int res.1.f, .int res.1.p] := rfl
    rw [et, e0]
    obtain ⟨dd, s1, s2, s3, s4, s5⟩ := shown_nu hkd hsm
    rw [e0] at s1
    have ho2 : OwnD M2 o r y l m (flagsOf (raiseF F res.2)) (flagsOf C) := hK.dic od1 ho1
    walk_at "q"
    rw [eq_t (xs := [.str (Str.ofString res.1.k), .int res.1.s, .int res.1.f, .int res.1.p]) rfl (by simp [pdeps, pdep])]
    walk_at "q"
    refine ⟨_, dd, rfl, s1 _, s2, s3, s4, s5, ?_⟩
    refine ⟨_, dd, rfl, s1 _, s2, s3, s4, s5, ?_⟩
    walk_at "q"
    rw [mthw_Context_flags T c2.self]
    walk_at "q"
    refine ⟨a, d1, d2, y, r, l, m, _, C, rfl, c2, ?_⟩
    walk_at "q"
    rw [own_up ho2]
    walk_at "q"
    rw [eq_l (xs := (flagsOf (raiseF F res.2)).map PV.str) (dat0s_str _).1 (by rw [(dat0s_str _).2]; decide)]
    refine k M2 (fun b mm hb e hl => ?_) hf2 c2 ho2
    refine hK b mm (fun z => hb (.inl z)) ?_ hl
    rw [k1 b (fun z => hb (.inr z))]
    exact e
  | cons n ct =>
    have hfz : firstT res.2 C = some n := hcf.symm
    walk_at "q"
    rw [show PV.str n :: List.map PV.str ct = (n :: ct).map PV.str from rfl, eq_cons]
    walk_at "q"
    refine ⟨f, cl, vs, a, d1, d2, y, r, l, m, F, C, res, rfl, hf1, c1, hd, fun M2 hK hf2 c2 => ?_⟩
    have et : toldP res C = .tup [.str (Str.ofString "trapped"), .str n] := by unfold toldP; rw [hfz]
    rw [et]
    obtain ⟨dd, s1, s2, s3, s4, s5⟩ := shown_trap (firstT_mem hfz)
    have ho2 : OwnD M2 o r y l m (flagsOf (raiseF F res.2)) (flagsOf C) := hK.dic od1 ho1
    walk_at "q"
    rw [eq_t (xs := [.str (Str.ofString "trapped"), .str n]) rfl (by simp [pdeps, pdep])]
    walk_at "q"
    refine ⟨_, dd, rfl, s1 _, s2, s3, s4, s5, ?_⟩
    refine ⟨_, dd, rfl, s1 _, s2, s3, s4, s5, ?_⟩
    walk_at "q"
    rw [mthw_Context_flags T c2.self]
    walk_at "q"
    refine ⟨a, d1, d2, y, r, l, m, _, C, rfl, c2, ?_⟩
    walk_at "q"
    rw [own_up ho2]
    walk_at "q"
    rw [eq_l (xs := (flagsOf (raiseF F res.2)).map PV.str) (dat0s_str _).1 (by rw [(dat0s_str _).2]; decide)]
    refine k M2 (fun b mm hb e hl => ?_) hf2 c2 ho2
    refine hK b mm (fun z => hb (.inl z)) ?_ hl
    rw [k1 b (fun z => hb (.inr z))]
    exact e

/-! _law_shown -/
def sp__law_shown : SpQ := fun xs M Q _ => ∃ (o : Addr) (r : Int) (y : Wy) (l m : Int) (U C : List Str) (s : Int) (x : Nat), xs = [.ref o, .int s, .int x] ∧ OwnD M o r y l m U C ∧ ((1 ≤ r ∧ r ≤ 24) ∧ (-60 ≤ l ∧ l ≤ 0) ∧ 0 ≤ m ∧ m ≤ 60) ∧ x < 10 ^ 570 ∧ Q (shoN r l s x).tup M
theorem sp__law_shown_len : ∀ xs M Q E, sp__law_shown xs M Q E → xs.length = 3 := fun xs M Q E ⟨_, _, _, _, _, _, _, _, _, h, _⟩ => by rw [h]; rfl
theorem ok__law_shown (T : Tx K mg) : FnQ P w K mg base 2 T.a__law_shown T.d__law_shown ["_law_own_here", "_law_sign", "_law_many"] sp__law_shown := by
  refine okQ T.F__law_shown sc__law_shown sp__law_shown_len (fun cdv A outer s0 H0 E hr => ?_)
  have tk := takes_of (X := cxOf (L2.CX P w) P w K mg base ["_law_own_here", "_law_sign", "_law_many", "_law_cut"] "_law_shown" (defScope s__law_shown) T.a__law_shown cdv A outer s0 H0 E) (E := E) rfl rfl rfl rfl
  have po := passes_of (X := cxOf (L2.CX P w) P w K mg base ["_law_own_here", "_law_sign", "_law_many", "_law_cut"] "_law_shown" (defScope s__law_shown) T.a__law_shown cdv A outer s0 H0 E) rfl
  refine ⟨_, (qss_cons (qs_set 3 sc__law_shown.nd (qe_callB (id := "max") (cq_max rfl) T.n_max (qa_cons qe_int (qa_cons (qe_bin oq_sub (qe_callB (id := "len") cq_len T.n_len (qa_cons (qe_callT (T := "str") cq_str T.n_str (qa_cons (qv 2) qa_nil)) qa_nil)) (qe_dget (hu1 hr) (qv 0) qe_str)) qa_nil))))
  (qss_one (qs_ret (qe_tup (qa_cons qe_str (qa_cons (qv 1) (qa_cons (qe_bin oq_div (qv 2) (qe_call (ok__law_ten T) hr T.m__law_ten T.F__law_ten.kp T.b__law_ten tk (qa_cons (qv 3) qa_nil))) (qa_cons (qe_bin oq_add (qe_dget (hu1 hr) (qv 0) qe_str) (qv 3)) qa_nil)))))))), ?_⟩
  clear tk po
  clear hr
  rintro xs M Q E ⟨o, r, y, l, m, U, C, s, x, rfl, ho, ⟨hr, hl, hm⟩, hx, k⟩
  have hnx := nd_le_of (c := 570) (by decide) hx
  walk_at "q"
  refine len_big hx ?_
  rw [own_room ho]
  walk_at "q"
  refine ⟨_, rfl, by omega, ?_⟩
  walk_at "q"
  refine ⟨divw (n := 4 * 600 + 1) (by have := ten_pos (max 0 ((nd x : Nat) - r)).toNat; omega) (by rw [Int.natAbs_natCast]; exact Nat.lt_of_lt_of_le (pow10_16 _) (two_le (by omega))) (by decide), ?_⟩
  rw [own_lowest ho]
  walk_at "q"
  rw [← Int.natCast_ediv]
  exact k

/-! _law_most -/
def sp__law_most : SpQ := fun xs M Q _ => ∃ (o : Addr) (r : Int) (y : Wy) (l m : Int) (U C : List Str), xs = [.ref o] ∧ OwnD M o r y l m U C ∧ ((1 ≤ r ∧ r ≤ 24) ∧ (-60 ≤ l ∧ l ≤ 0) ∧ 0 ≤ m ∧ m ≤ 60) ∧ Q (.int (mosN r l m : Nat)) M
theorem sp__law_most_len : ∀ xs M Q E, sp__law_most xs M Q E → xs.length = 1 := fun xs M Q E ⟨_, _, _, _, _, _, _, h, _⟩ => by rw [h]; rfl
theorem ok__law_most (T : Tx K mg) : FnQ P w K mg base 2 T.a__law_most T.d__law_most ["_law_own_here"] sp__law_most := by
  refine okQ T.F__law_most sc__law_most sp__law_most_len (fun cdv A outer s0 H0 E hr => ?_)
  have tk := takes_of (X := cxOf (L2.CX P w) P w K mg base ["_law_own_here", "_law_nines", "_law_wide"] "_law_most" (defScope s__law_most) T.a__law_most cdv A outer s0 H0 E) (E := E) rfl rfl rfl rfl
  have po := passes_of (X := cxOf (L2.CX P w) P w K mg base ["_law_own_here", "_law_nines", "_law_wide"] "_law_most" (defScope s__law_most) T.a__law_most cdv A outer s0 H0 E) rfl
  refine ⟨_, (qss_cons (qs_set 1 sc__law_most.nd (qe_bin oq_sub (qe_call (ok__law_ten T) hr T.m__law_ten T.F__law_ten.kp T.b__law_ten tk (qa_cons (qe_dget (hu1 hr) (qv 0) qe_str) qa_nil)) qe_int))
  (qss_cons (qs_set 2 sc__law_most.nd (qe_bin oq_add (qe_bin oq_sub (qe_dget (hu1 hr) (qv 0) qe_str) (qe_dget (hu1 hr) (qv 0) qe_str)) qe_int))
  (qss_one (qs_ret (qe_bin oq_mul (qv 1) (qe_call (ok__law_ten T) hr T.m__law_ten T.F__law_ten.kp T.b__law_ten tk (qa_cons (qe_bin oq_sub (qv 2) (qe_dget (hu1 hr) (qv 0) qe_str)) qa_nil))))))), ?_⟩
  clear tk po
  clear hr
  rintro xs M Q E ⟨o, r, y, l, m, U, C, rfl, ho, ⟨hr, hl, hm⟩, k⟩
  walk_at "q"
  rw [own_room ho]
  walk_at "q"
  refine ⟨_, rfl, by omega, ?_⟩
  walk_at "q"
  rw [own_most ho]
  walk_at "q"
  rw [own_room ho]
  walk_at "q"
  rw [own_lowest ho]
  walk_at "q"
  refine ⟨_, rfl, by omega, ?_⟩
  have h1 := ten_pos r.toNat
  have e : (((10 ^ r.toNat : Nat) : Int) - 1) * ((10 ^ (m - r + 1 - (l - r + 1)).toNat : Nat) : Int) = (mosN r l m : Nat) := by
    unfold mosN
    rw [Int.natCast_mul, show m - r + 1 - (l - r + 1) = m - l by omega, Int.natCast_sub (by omega)]
    rfl
  have b1 := pow10_16 r.toNat
  walk_at "q"
  refine ⟨mul_ok (m := 100) (Nat.lt_of_lt_of_le (show (((10 ^ r.toNat : Nat) : Int) - 1).natAbs < 2 ^ (4 * r.toNat + 1) by omega) (two_le (by omega))) (by rw [Int.natAbs_natCast]; exact pow10_16 _) (by omega), ?_⟩
  rw [e]
  exact k

/-! _law_grid -/
def sp__law_grid : SpQ := fun xs M Q _ => ∃ (o : Addr) (r : Int) (y : Wy) (l m : Int) (U C : List Str) (n : Nu), xs = [.ref o, n.tup] ∧ OwnD M o r y l m U C ∧ ((1 ≤ r ∧ r ≤ 24) ∧ (-60 ≤ l ∧ l ≤ 0) ∧ 0 ≤ m ∧ m ≤ 60) ∧ n.Sm ∧ Q (.tup [.int (griN r l n : Nat), .bl (griB r l n)]) M
theorem sp__law_grid_len : ∀ xs M Q E, sp__law_grid xs M Q E → xs.length = 2 := fun xs M Q E ⟨_, _, _, _, _, _, _, _, h, _⟩ => by rw [h]; rfl
theorem ok__law_grid (T : Tx K mg) : FnQ P w K mg base 2 T.a__law_grid T.d__law_grid ["_law_own_here", "_law_one"] sp__law_grid := by
  refine okQ T.F__law_grid sc__law_grid sp__law_grid_len (fun cdv A outer s0 H0 E hr => ?_)
  have tk := takes_of (X := cxOf (L2.CX P w) P w K mg base ["_law_own_here", "_law_one", "_law_wide", "_law_top", "_law_whole", "_law_left"] "_law_grid" (defScope s__law_grid) T.a__law_grid cdv A outer s0 H0 E) (E := E) rfl rfl rfl rfl
  have po := passes_of (X := cxOf (L2.CX P w) P w K mg base ["_law_own_here", "_law_one", "_law_wide", "_law_top", "_law_whole", "_law_left"] "_law_grid" (defScope s__law_grid) T.a__law_grid cdv A outer s0 H0 E) rfl
  refine ⟨_, (qss_cons (qs_set 2 sc__law_grid.nd (qe_bin oq_sub (qe_ix (qv 1) qe_int) (qe_dget (hu1 hr) (qv 0) qe_str)))
  (qss_cons (qs_set 3 sc__law_grid.nd (qe_bin oq_mul (qe_ix (qv 1) qe_int) (qe_call (ok__law_ten T) hr T.m__law_ten T.F__law_ten.kp T.b__law_ten tk (qa_cons (qe_callB (id := "max") (cq_max rfl) T.n_max (qa_cons qe_int (qa_cons (qv 2) qa_nil))) qa_nil))))
  (qss_cons (qs_asg (qe_callB (id := "divmod") cq_divmod T.n_divmod (qa_cons (qv 3) (qa_cons (qe_call (ok__law_ten T) hr T.m__law_ten T.F__law_ten.kp T.b__law_ten tk (qa_cons (qe_callB (id := "max") (cq_max rfl) T.n_max (qa_cons qe_int (qa_cons (qe_bin oq_sub qe_int (qv 2)) qa_nil))) qa_nil)) qa_nil))) (qg_tup (n := 2) rfl (qgs_cons (qg_name (i := 4) sc__law_grid.nd) (qgs_cons (qg_name (i := 5) sc__law_grid.nd) qgs_nil))))
  (qss_one (qs_ret (qe_tup (qa_cons (qv 4) (qa_cons (qe_cmp oq_gt (qv 5) qe_int) qa_nil)))))))), ?_⟩
  clear tk po
  clear hr
  rintro xs M Q E ⟨o, r, y, l, m, U, C, n, rfl, ho, ⟨hr, hl, hm⟩, hn, k⟩
  obtain ⟨nk, ns, nf, np⟩ := n
  have hf := hn.f
  have hnp := hn.p
  unfold griN griB at k
  dsimp only at hf hnp k
  rw [show Nu.tup ⟨nk, ns, nf, np⟩ = .tup [.str (Str.ofString nk), .int ns, .int nf, .int np] from rfl]
  walk_at "q"
  rw [own_lowest ho]
  walk_at "q"
  refine ⟨_, rfl, by omega, ?_⟩
  generalize hd : np - (l - r + 1) = d at *
  have a1 := pow10_lt_2 (n := 100) (a := nf.toNat) (by omega)
  walk_at "q"
  refine ⟨mul_ok (m := 401) (by omega) (by rw [Int.natAbs_natCast]; exact pow10_16 _) (by omega), ?_⟩
  refine ⟨_, rfl, by omega, ?_⟩
  have x1 : nf * ((10 ^ (max 0 d).toNat : Nat) : Int) = (sideH nf.toNat d : Nat) := by
    unfold sideH
    rw [Int.natCast_mul, Int.toNat_of_nonneg hf.1, show (max 0 d).toNat = d.toNat by omega]
  have x2 : ((10 ^ (max 0 (0 - d)).toNat : Nat) : Int) = (sideL 1 d : Nat) := by
    unfold sideL
    rw [Nat.one_mul, show (max 0 (0 - d)).toNat = (-d).toNat by omega]
  rw [x1, x2]
  have hL : 0 < sideL 1 d := sideL_pos (Nat.le_refl 1) _
  have hL2 : sideL 1 d < 2 ^ 8000 := by
    have h1 : sideL 1 d < 2 ^ (4 * (-d).toNat + 1) := by
      unfold sideL
      rw [Nat.one_mul]
      exact pow10_16 _
    exact Nat.lt_of_lt_of_le h1 (two_le (by omega))
  clear x1 x2
  generalize sideH nf.toNat d = t at *
  generalize sideL 1 d = b at *
  walk_at "q"
  refine ⟨divp (n := 8000) (by omega) (by rw [Int.natAbs_natCast]; exact hL2), ?_⟩
  rw [show decide (0 < t % b) = decide ((0 : Int) < ((t % b : Nat) : Int)) by rw [decide_eq_decide]; omega, Int.natCast_ediv, Int.natCast_emod] at k
  exact k

/-! _law_farther -/
def sp__law_farther : SpQ := fun xs M Q _ => ∃ (o : Addr) (r : Int) (y : Wy) (l m : Int) (U C : List Str) (n : Nu) (s : Int), xs = [.ref o, n.tup, .int s] ∧ OwnD M o r y l m U C ∧ ((1 ≤ r ∧ r ≤ 24) ∧ (-60 ≤ l ∧ l ≤ 0) ∧ 0 ≤ m ∧ m ≤ 60) ∧ (n.Sm ∧ griN r l n < 10 ^ 500) ∧ Q (farL r l m s (griN r l n + 1)).tup M
theorem sp__law_farther_len : ∀ xs M Q E, sp__law_farther xs M Q E → xs.length = 3 := fun xs M Q E ⟨_, _, _, _, _, _, _, _, _, h, _⟩ => by rw [h]; rfl
theorem ok__law_farther (T : Tx K mg) : FnQ P w K mg base 3 T.a__law_farther T.d__law_farther ["_law_own_here", "_law_one", "_law_sign"] sp__law_farther := by
  refine okQ T.F__law_farther sc__law_farther sp__law_farther_len (fun cdv A outer s0 H0 E hr => ?_)
  have tk := takes_of (X := cxOf (L2.CX P w) P w K mg base ["_law_own_here", "_law_one", "_law_sign", "_law_many", "_law_step"] "_law_farther" (defScope s__law_farther) T.a__law_farther cdv A outer s0 H0 E) (E := E) rfl rfl rfl rfl
  have po := passes_of (X := cxOf (L2.CX P w) P w K mg base ["_law_own_here", "_law_one", "_law_sign", "_law_many", "_law_step"] "_law_farther" (defScope s__law_farther) T.a__law_farther cdv A outer s0 H0 E) rfl
  refine ⟨_, (qss_cons (qs_set 3 sc__law_farther.nd (qe_bin oq_add (qe_ix (qe_call (ok__law_grid T) hr T.m__law_grid T.F__law_grid.kp T.b__law_grid tk (qa_cons (qv 0) (qa_cons (qv 1) qa_nil))) qe_int) qe_int))
  (qss_cons (qs_set 4 sc__law_farther.nd (qe_call (ok__law_ten T) (hr.mono (by decide)) T.m__law_ten T.F__law_ten.kp T.b__law_ten tk (qa_cons (qe_callB (id := "max") (cq_max rfl) T.n_max (qa_cons qe_int (qa_cons (qe_bin oq_sub (qe_callB (id := "len") cq_len T.n_len (qa_cons (qe_callT (T := "str") cq_str T.n_str (qa_cons (qv 3) qa_nil)) qa_nil)) (qe_dget (hu1 hr) (qv 0) qe_str)) qa_nil))) qa_nil)))
  (qss_cons (qs_set 3 sc__law_farther.nd (qe_bin oq_mul (qe_bin oq_div (qe_bin oq_sub (qe_bin oq_add (qv 3) (qv 4)) qe_int) (qv 4)) (qv 4)))
  (qss_cons (qs_if (qt_cmp oq_gt (qv 3) (qe_call (ok__law_most T) hr T.m__law_most T.F__law_most.kp T.b__law_most tk (qa_cons (qv 0) qa_nil)))
  (qss_one (qs_ret (qe_tup (qa_cons qe_str (qa_cons (qv 2) (qa_cons qe_int (qa_cons qe_int qa_nil)))))))
  qss_nil)
  (qss_one (qs_ret (qe_call (ok__law_shown T) hr T.m__law_shown T.F__law_shown.kp T.b__law_shown tk (qa_cons (qv 0) (qa_cons (qv 2) (qa_cons (qv 3) qa_nil)))))))))), ?_⟩
  clear tk po
  clear hr
  rintro xs M Q E ⟨o, r, y, l, m, U, C, n, s, rfl, ho, hb, ⟨hn, hg⟩, k⟩
  walk_at "q"
  refine ⟨o, r, y, l, m, U, C, n, rfl, ho, hb, hn, ?_⟩
  walk_at "q"
  generalize griN r l n = g at *
  have hx : g + 1 < 10 ^ 570 := Nat.lt_of_le_of_lt hg (pow10_lt (by decide))
  rw [show ((g : Nat) : Int) + 1 = ((g + 1 : Nat) : Int) by omega]
  generalize g + 1 = x at *
  refine len_big hx ?_
  rw [own_room ho]
  walk_at "q"
  have hnx := nd_le_of (c := 570) (by decide) hx
  refine ⟨_, rfl, by omega, ?_⟩
  have hst := ten_pos (max 0 ((nd x : Nat) - r)).toNat
  have est : 10 ^ (max 0 ((nd x : Nat) - r)).toNat = stpN r x := rfl
  have hsb : stpN r x < 2 ^ 2401 := Nat.lt_of_lt_of_le (pow10_16 _) (two_le (by omega))
  unfold farL at k
  rw [est] at hst ⊢
  have hle : (x + stpN r x - 1) / stpN r x * stpN r x ≤ x + stpN r x - 1 := Nat.div_mul_le_self _ _
  have hs2 : stpN r x ≤ 10 ^ 569 := pow10_le (by omega)
  generalize stpN r x = st at *
  walk_at "q"
  have e0 : (x : Int) + (st : Int) - 1 = ((x + st - 1 : Nat) : Int) := by omega
  rw [e0]
  have hxs : x + st - 1 < 10 ^ 571 := by
    have h4 : 10 ^ 570 + 10 ^ 569 < 10 ^ 571 := by decide +kernel
    omega
  generalize x + st - 1 = z at *
  have b1 : z / st < 2 ^ 2401 := Nat.lt_of_le_of_lt (Nat.div_le_self _ _) (Nat.lt_of_lt_of_le (pow10_lt_2 hxs) (two_le (by decide)))
  refine ⟨divw (n := 2401) (by omega) (by rw [Int.natAbs_natCast]; exact hsb) (by decide), ?_, ?_⟩
  · rw [← Int.natCast_ediv]
    exact mul_ok_nat b1 hsb (by decide)
  refine ⟨o, r, y, l, m, U, C, rfl, ho, hb, ?_⟩
  walk_at "q"
  have ez : (z : Int) / (st : Int) * (st : Int) = ((z / st * st : Nat) : Int) := by rw [Int.natCast_mul, Int.natCast_ediv]
  rw [ez]
  have hm570 : mosN r l m < 10 ^ 570 := by
    have h1 := ten_pos r.toNat
    unfold mosN
    have h2 : (10 ^ r.toNat - 1) * 10 ^ (m - l).toNat ≤ 10 ^ 24 * 10 ^ 120 := Nat.mul_le_mul (Nat.le_trans (Nat.sub_le _ _) (pow10_le (by omega))) (pow10_le (by omega))
    rw [← Nat.pow_add] at h2
    exact Nat.lt_of_le_of_lt h2 (pow10_lt (by decide))
  generalize z / st * st = u at *
  refine iteP_of (fun h => ?_) (fun h => ?_)
  · rw [if_pos (by omega)] at k
    walk_at "q"
    exact k
  · rw [if_neg (by omega)] at k
    walk_at "q"
    refine ⟨o, r, y, l, m, U, C, s, u, rfl, ho, hb, Nat.lt_of_le_of_lt (by omega) hm570, ?_⟩
    walk_at "q"
    exact k

/-! _law_nearer -/
def sp__law_nearer : SpQ := fun xs M Q _ => ∃ (o : Addr) (r : Int) (y : Wy) (l m : Int) (U C : List Str) (n : Nu), xs = [.ref o, n.tup] ∧ OwnD M o r y l m U C ∧ ((1 ≤ r ∧ r ≤ 24) ∧ (-60 ≤ l ∧ l ≤ 0) ∧ 0 ≤ m ∧ m ≤ 60) ∧ (n.Sm ∧ (griB r l n = true ∨ 1 ≤ griN r l n)) ∧ Q (neaL r l m n.s (neaG r l m (griN r l n) (griB r l n))).tup M
theorem sp__law_nearer_len : ∀ xs M Q E, sp__law_nearer xs M Q E → xs.length = 2 := fun xs M Q E ⟨_, _, _, _, _, _, _, _, h, _⟩ => by rw [h]; rfl
theorem ok__law_nearer (T : Tx K mg) : FnQ P w K mg base 3 T.a__law_nearer T.d__law_nearer ["_law_own_here", "_law_one"] sp__law_nearer := by
  refine okQ T.F__law_nearer sc__law_nearer sp__law_nearer_len (fun cdv A outer s0 H0 E hr => ?_)
  have tk := takes_of (X := cxOf (L2.CX P w) P w K mg base ["_law_own_here", "_law_one", "_law_whole", "_law_is_more", "_law_many", "_law_step"] "_law_nearer" (defScope s__law_nearer) T.a__law_nearer cdv A outer s0 H0 E) (E := E) rfl rfl rfl rfl
  have po := passes_of (X := cxOf (L2.CX P w) P w K mg base ["_law_own_here", "_law_one", "_law_whole", "_law_is_more", "_law_many", "_law_step"] "_law_nearer" (defScope s__law_nearer) T.a__law_nearer cdv A outer s0 H0 E) rfl
  refine ⟨_, (qss_cons (qs_asg (qe_call (ok__law_grid T) hr T.m__law_grid T.F__law_grid.kp T.b__law_grid tk (qa_cons (qv 0) (qa_cons (qv 1) qa_nil))) (qg_tup (n := 2) rfl (qgs_cons (qg_name (i := 2) sc__law_nearer.nd) (qgs_cons (qg_name (i := 3) sc__law_nearer.nd) qgs_nil))))
  (qss_cons (qs_set 4 sc__law_nearer.nd (qe_callB (id := "min") (cq_min rfl) T.n_min (qa_cons (qe_bin oq_sub (qv 2) (qe_callT (T := "int") cq_int T.n_int (qa_cons (qe_not (qv 3)) qa_nil))) (qa_cons (qe_call (ok__law_most T) hr T.m__law_most T.F__law_most.kp T.b__law_most tk (qa_cons (qv 0) qa_nil)) qa_nil))))
  (qss_cons (qs_set 5 sc__law_nearer.nd (qe_call (ok__law_ten T) (hr.mono (by decide)) T.m__law_ten T.F__law_ten.kp T.b__law_ten tk (qa_cons (qe_callB (id := "max") (cq_max rfl) T.n_max (qa_cons qe_int (qa_cons (qe_bin oq_sub (qe_callB (id := "len") cq_len T.n_len (qa_cons (qe_callT (T := "str") cq_str T.n_str (qa_cons (qv 4) qa_nil)) qa_nil)) (qe_dget (hu1 hr) (qv 0) qe_str)) qa_nil))) qa_nil)))
  (qss_one (qs_ret (qe_call (ok__law_shown T) hr T.m__law_shown T.F__law_shown.kp T.b__law_shown tk (qa_cons (qv 0) (qa_cons (qe_ix (qv 1) qe_int) (qa_cons (qe_bin oq_mul (qe_bin oq_div (qv 4) (qv 5)) (qv 5)) qa_nil))))))))), ?_⟩
  clear tk po
  clear hr
  rintro xs M Q E ⟨o, r, y, l, m, U, C, n, rfl, ho, hb, ⟨hn, hg⟩, k⟩
  obtain ⟨nk, ns, nf, np⟩ := n
  rw [show Nu.tup ⟨nk, ns, nf, np⟩ = .tup [.str (Str.ofString nk), .int ns, .int nf, .int np] from rfl]
  walk_at "q"
  refine ⟨o, r, y, l, m, U, C, ⟨nk, ns, nf, np⟩, rfl, ho, hb, hn, ?_⟩
  walk_at "q"
  dsimp only at k
  generalize griN r l ⟨nk, ns, nf, np⟩ = g at *
  generalize griB r l ⟨nk, ns, nf, np⟩ = more at *
  have hmo := mosN_lt (r := r) (l := l) (m := m) hb.1 hb.2.1 hb.2.2
  cases more with
  | true =>
    unfold neaG at k
    rw [if_pos rfl, Nat.sub_zero] at k
    walk_at "q"
    refine ⟨o, r, y, l, m, U, C, rfl, ho, hb, ?_⟩
    walk_at "q"
    rw [show min (((g : Nat) : Int) - 0) ((mosN r l m : Nat) : Int) = ((min g (mosN r l m) : Nat) : Int) by omega]
    have hv : min g (mosN r l m) < 10 ^ 570 := Nat.lt_of_le_of_lt (Nat.min_le_right _ _) hmo
    generalize min g (mosN r l m) = v at *
    refine len_big hv ?_
    rw [own_room ho]
    walk_at "q"
    have hnx := nd_le_of (c := 570) (by decide) hv
    refine ⟨_, rfl, by omega, ?_⟩
    have hst := ten_pos (max 0 ((nd v : Nat) - r)).toNat
    have est : 10 ^ (max 0 ((nd v : Nat) - r)).toNat = stpN r v := rfl
    have hsb : stpN r v < 2 ^ 2401 := Nat.lt_of_lt_of_le (pow10_16 _) (two_le (by omega))
    unfold neaL at k
    rw [est] at hst ⊢
    generalize stpN r v = st at *
    have b1 : v / st < 2 ^ 2401 := Nat.lt_of_le_of_lt (Nat.div_le_self _ _) (Nat.lt_of_lt_of_le (pow10_lt_2 hv) (two_le (by decide)))
    walk_at "q"
    refine ⟨divw (n := 2401) (by omega) (by rw [Int.natAbs_natCast]; exact hsb) (by decide), ?_, ?_⟩
    · rw [← Int.natCast_ediv]
      exact mul_ok_nat b1 hsb (by decide)
    rw [show (v : Int) / (st : Int) * (st : Int) = ((v / st * st : Nat) : Int) by rw [Int.natCast_mul, Int.natCast_ediv]]
    refine ⟨o, r, y, l, m, U, C, ns, _, rfl, ho, hb, Nat.lt_of_le_of_lt (Nat.div_mul_le_self _ _) hv, ?_⟩
    walk_at "q"
    exact k
  | false =>
    unfold neaG at k
    rw [if_neg (by decide)] at k
    have hg1 : 1 ≤ g := hg.resolve_left (by decide)
    walk_at "q"
    refine ⟨o, r, y, l, m, U, C, rfl, ho, hb, ?_⟩
    walk_at "q"
    rw [show min (((g : Nat) : Int) - 1) ((mosN r l m : Nat) : Int) = ((min (g - 1) (mosN r l m) : Nat) : Int) by omega]
    have hv : min (g - 1) (mosN r l m) < 10 ^ 570 := Nat.lt_of_le_of_lt (Nat.min_le_right _ _) hmo
    generalize min (g - 1) (mosN r l m) = v at *
    refine len_big hv ?_
    rw [own_room ho]
    walk_at "q"
    have hnx := nd_le_of (c := 570) (by decide) hv
    refine ⟨_, rfl, by omega, ?_⟩
    have hst := ten_pos (max 0 ((nd v : Nat) - r)).toNat
    have est : 10 ^ (max 0 ((nd v : Nat) - r)).toNat = stpN r v := rfl
    have hsb : stpN r v < 2 ^ 2401 := Nat.lt_of_lt_of_le (pow10_16 _) (two_le (by omega))
    unfold neaL at k
    rw [est] at hst ⊢
    generalize stpN r v = st at *
    have b1 : v / st < 2 ^ 2401 := Nat.lt_of_le_of_lt (Nat.div_le_self _ _) (Nat.lt_of_lt_of_le (pow10_lt_2 hv) (two_le (by decide)))
    walk_at "q"
    refine ⟨divw (n := 2401) (by omega) (by rw [Int.natAbs_natCast]; exact hsb) (by decide), ?_, ?_⟩
    · rw [← Int.natCast_ediv]
      exact mul_ok_nat b1 hsb (by decide)
    rw [show (v : Int) / (st : Int) * (st : Int) = ((v / st * st : Nat) : Int) by rw [Int.natCast_mul, Int.natCast_ediv]]
    refine ⟨o, r, y, l, m, U, C, ns, _, rfl, ho, hb, Nat.lt_of_le_of_lt (Nat.div_mul_le_self _ _) hv, ?_⟩
    walk_at "q"
    exact k

/-! _law_due -/
def sp__law_due : SpQ := fun xs M Q _ => ∃ (o : Addr) (r : Int) (y : Wy) (l m : Int) (U C : List Str) (n : Nu) (s : Int), xs = [.ref o, n.tup, .int s] ∧ OwnD M o r y l m U C ∧ ((1 ≤ r ∧ r ≤ 24) ∧ (-60 ≤ l ∧ l ≤ 0) ∧ 0 ≤ m ∧ m ≤ 60) ∧ (n.V ∧ 0 ≤ s ∧ s ≤ 1) ∧ Q (.tup [(nexV r l m n s).tup, .lst []]) M
theorem sp__law_due_len : ∀ xs M Q E, sp__law_due xs M Q E → xs.length = 3 := fun xs M Q E ⟨_, _, _, _, _, _, _, _, _, h, _⟩ => by rw [h]; rfl
theorem ok__law_due (T : Tx K mg) : FnQ P w K mg base 4 T.a__law_due T.d__law_due ["_law_own_here", "_law_one", "_law_sign"] sp__law_due := by
  refine okQ T.F__law_due sc__law_due sp__law_due_len (fun cdv A outer s0 H0 E hr => ?_)
  have tk := takes_of (X := cxOf (L2.CX P w) P w K mg base ["_law_own_here", "_law_one", "_law_sign"] "_law_due" (defScope s__law_due) T.a__law_due cdv A outer s0 H0 E) (E := E) rfl rfl rfl rfl
  have po := passes_of (X := cxOf (L2.CX P w) P w K mg base ["_law_own_here", "_law_one", "_law_sign"] "_law_due" (defScope s__law_due) T.a__law_due cdv A outer s0 H0 E) rfl
  refine ⟨_, (qss_cons (qs_if (qt_cmp (oq_eq hr.units) (qe_ix (qv 1) qe_int) qe_str)
  (qss_one (qs_ret (qe_tup (qa_cons (qv 1) (qa_cons (qe_lst qa_nil) qa_nil)))))
  qss_nil)
  (qss_cons (qs_if (qt_w (qw_and (qt_cmp (oq_eq hr.units) (qe_ix (qv 1) qe_int) qe_str) (qw_one_and (qt_cmp (oq_eq hr.units) (qe_ix (qv 1) qe_int) (qv 2)))))
  (qss_one (qs_ret (qe_tup (qa_cons (qv 1) (qa_cons (qe_lst qa_nil) qa_nil)))))
  qss_nil)
  (qss_cons (qs_if (qt_cmp (oq_eq hr.units) (qe_ix (qv 1) qe_int) qe_str)
  (qss_one (qs_ret (qe_tup (qa_cons (qe_call (ok__law_shown T) (hr.mono (by decide)) T.m__law_shown T.F__law_shown.kp T.b__law_shown tk (qa_cons (qv 0) (qa_cons (qe_ix (qv 1) qe_int) (qa_cons (qe_call (ok__law_most T) (hr.mono (by decide)) T.m__law_most T.F__law_most.kp T.b__law_most tk (qa_cons (qv 0) qa_nil)) qa_nil)))) (qa_cons (qe_lst qa_nil) qa_nil)))))
  qss_nil)
  (qss_cons (qs_if (qt_w (qw_or (qt_cmp (oq_eq hr.units) (qe_ix (qv 1) qe_int) qe_int) (qw_one_or (qt_cmp (oq_eq hr.units) (qe_ix (qv 1) qe_int) (qv 2)))))
  (qss_one (qs_ret (qe_tup (qa_cons (qe_call (ok__law_farther T) hr T.m__law_farther T.F__law_farther.kp T.b__law_farther tk (qa_cons (qv 0) (qa_cons (qv 1) (qa_cons (qv 2) qa_nil)))) (qa_cons (qe_lst qa_nil) qa_nil)))))
  qss_nil)
  (qss_one (qs_ret (qe_tup (qa_cons (qe_call (ok__law_nearer T) hr T.m__law_nearer T.F__law_nearer.kp T.b__law_nearer tk (qa_cons (qv 0) (qa_cons (qv 1) qa_nil))) (qa_cons (qe_lst qa_nil) qa_nil))))))))), ?_⟩
  clear tk po
  clear hr
  rintro xs M Q E ⟨o, r, y, l, m, U, C, n, s, rfl, ho, ⟨hr, hl, hm⟩, ⟨hn, hs⟩, k⟩
  unfold nexV at k
  have et : n.tup = .tup [.str (Str.ofString n.k), .int n.s, .int n.f, .int n.p] := rfl
  rw [et]
  walk_at "q"
  refine iteP_of (fun h => ?_) (fun h => ?_)
  · rw [if_pos h] at k
    have e : n = noneN := by
      rcases hn.kd with w | w | w
      · rw [h] at w; exact absurd w.1 (by decide)
      · rw [h] at w; exact absurd w.1 (by decide)
      · exact w
    subst e
    walk_at "q"
    exact k
  rw [if_neg h] at k
  have hi := hn.inn h
  unfold nexN at k
  walk_at "q"
  refine iteP_of (fun h1 => ?_) (fun h1 => ?_)
  · rw [if_pos h1] at k
    walk_at "q"
    refine iteP_of (fun h2 => ?_) (fun h2 => ?_)
    · rw [if_pos h2] at k
      walk_at "q"
      have e : n = endN s := by
        rcases hi.kd with w | w
        · rw [h1] at w; exact absurd w.1 (by decide)
        · obtain ⟨a, b, c, d⟩ := n
          obtain ⟨rfl, rfl, rfl⟩ := w
          subst h2
          rfl
      subst e
      exact k
    · rw [if_neg h2] at k
      walk_at "q"
      refine iteP_t h1 ?_
      walk_at "q"
      have hmo := mosN_lt (r := r) (l := l) (m := m) hr hl hm
      refine ⟨o, r, y, l, m, U, C, rfl, ho, ⟨hr, hl, hm⟩, ?_⟩
      walk_at "q"
      refine ⟨o, r, y, l, m, U, C, n.s, _, rfl, ho, ⟨hr, hl, hm⟩, hmo, ?_⟩
      walk_at "q"
      rw [gre_law hr hl hm]
      exact k
  · rw [if_neg h1] at k
    have o1 : okP n.s n.f n.p := hi.kd.elim (fun z => z.2) (fun z => absurd z.1 h1)
    walk_at "q"
    refine iteP_f h1 ?_
    walk_at "q"
    refine iteP_of (fun h2 => ?_) (fun h2 => ?_)
    · rw [if_pos (.inl h2)] at k
      walk_at "q"
      refine ⟨o, r, y, l, m, U, C, n, s, rfl, ho, ⟨hr, hl, hm⟩, ⟨hn.sm, gri_lt hr hl o1⟩, ?_⟩
      walk_at "q"
      rw [far_law hr hl hm o1]
      exact k
    walk_at "q"
    refine iteP_of (fun h3 => ?_) (fun h3 => ?_)
    · rw [if_pos (.inr h3)] at k
      walk_at "q"
      refine ⟨o, r, y, l, m, U, C, n, s, rfl, ho, ⟨hr, hl, hm⟩, ⟨hn.sm, gri_lt hr hl o1⟩, ?_⟩
      walk_at "q"
      rw [far_law hr hl hm o1]
      exact k
    · rw [if_neg (fun z => z.elim h2 h3)] at k
      walk_at "q"
      refine ⟨o, r, y, l, m, U, C, n, rfl, ho, ⟨hr, hl, hm⟩, ⟨hn.sm, gri_some o1 h2⟩, ?_⟩
      walk_at "q"
      rw [nea_law hr hl hm o1 h2]
      exact k

/-! _law_border -/
def sp__law_border : SpQ := fun xs M Q _ => ∃ (o : Addr) (r : Int) (y : Wy) (l m : Int) (U C : List Str) (c : Int), xs = [.ref o, .int c] ∧ OwnD M o r y l m U C ∧ ((1 ≤ r ∧ r ≤ 24) ∧ (-60 ≤ l ∧ l ≤ 0) ∧ 0 ≤ m ∧ m ≤ 60) ∧ ∀ (M' : Mem) (n : Nu), (∀ b, M b ≠ none → M' b = M b) → n.V → Q n.tup M'
theorem sp__law_border_len : ∀ xs M Q E, sp__law_border xs M Q E → xs.length = 2 := fun xs M Q E ⟨_, _, _, _, _, _, _, _, h, _⟩ => by rw [h]; rfl
theorem ok__law_border (T : Tx K mg) : FnQ P w K mg base 2 T.a__law_border T.d__law_border ["_law_own_here", "_law_cell"] sp__law_border := by
  refine okQ T.F__law_border sc__law_border sp__law_border_len (fun cdv A outer s0 H0 E hr => ?_)
  have tk := takes_of (X := cxOf (L2.CX P w) P w K mg base ["_law_own_here", "_law_cell", "_law_room", "_law_low", "_law_some", "_law_figures_here", "_law_wide"] "_law_border" (defScope s__law_border) T.a__law_border cdv A outer s0 H0 E) (E := E) rfl rfl rfl rfl
  have po := passes_of (X := cxOf (L2.CX P w) P w K mg base ["_law_own_here", "_law_cell", "_law_room", "_law_low", "_law_some", "_law_figures_here", "_law_wide"] "_law_border" (defScope s__law_border) T.a__law_border cdv A outer s0 H0 E) rfl
  refine ⟨_, (qss_cons (qs_set 2 sc__law_border.nd (qe_dget (hu1 hr) (qv 0) qe_str))
  (qss_cons (qs_set 3 sc__law_border.nd (qe_dget (hu1 hr) (qv 0) qe_str))
  (qss_cons (qs_set 4 sc__law_border.nd (qe_lstM (qa_cons (qe_tup (qa_cons (qe_bin oq_sub (qe_call (ok__law_ten T) hr T.m__law_ten T.F__law_ten.kp T.b__law_ten tk (qa_cons (qv 2) qa_nil)) qe_int) (qa_cons (qe_bin oq_add (qe_bin oq_sub (qe_dget (hu1 hr) (qv 0) qe_str) (qv 2)) qe_int) qa_nil))) (qa_cons (qe_tup (qa_cons qe_int (qa_cons (qe_bin oq_add (qe_dget (hu1 hr) (qv 0) qe_str) qe_int) qa_nil))) qa_nil))))
  (qss_cons (qs_set 4 sc__law_border.nd (qe_bin oq_addM (qv 4) (qe_lst (qa_cons (qe_tup (qa_cons qe_int (qa_cons (qv 3) qa_nil))) (qa_cons (qe_tup (qa_cons (qe_call (ok__law_ten T) hr T.m__law_ten T.F__law_ten.kp T.b__law_ten tk (qa_cons (qe_bin oq_sub (qv 2) qe_int) qa_nil)) (qa_cons (qv 3) qa_nil))) (qa_cons (qe_tup (qa_cons (qe_call (ok__law_ten T) hr T.m__law_ten T.F__law_ten.kp T.b__law_ten tk (qa_cons (qv 2) qa_nil)) (qa_cons (qv 3) qa_nil))) qa_nil))))))
  (qss_cons (qs_set 4 sc__law_border.nd (qe_bin oq_addM (qv 4) (qe_lst (qa_cons (qe_tup (qa_cons qe_int (qa_cons (qe_dget (hu1 hr) (qv 0) qe_str) qa_nil))) (qa_cons (qe_tup (qa_cons qe_int (qa_cons (qe_bin oq_sub (qe_bin oq_mod (qe_bin oq_div (qv 1) qe_int) qe_int) qe_int) qa_nil))) qa_nil)))))
  (qss_cons (qs_expr (qe_app (qv 4) (qe_tup (qa_cons (qe_bin oq_sub (qe_call (ok__law_ten T) hr T.m__law_ten T.F__law_ten.kp T.b__law_ten tk (qa_cons (qv 2) qa_nil)) qe_int) (qa_cons (qe_bin oq_sub (qe_bin oq_mod (qe_bin oq_div (qv 1) qe_int) qe_int) qe_int) qa_nil)))))
  (qss_cons (qs_asg (qe_ix (qv 4) (qe_bin oq_mod (qe_bin oq_div (qv 1) qe_int) qe_int)) (qg_tup (n := 2) rfl (qgs_cons (qg_name (i := 5) sc__law_border.nd) (qgs_cons (qg_name (i := 6) sc__law_border.nd) qgs_nil))))
  (qss_one (qs_ret (qe_tup (qa_cons qe_str (qa_cons (qe_bin oq_mod (qe_bin oq_div (qv 1) qe_int) qe_int) (qa_cons (qe_callB (id := "max") (cq_max rfl) T.n_max (qa_cons qe_int (qa_cons (qe_bin oq_sub (qe_bin oq_add (qv 5) (qe_bin oq_mod (qe_bin oq_div (qv 1) qe_int) qe_int)) qe_int) qa_nil))) (qa_cons (qv 6) qa_nil)))))))))))))), ?_⟩
  clear tk po
  clear hr
  rintro xs M Q E ⟨o, r, y, l, m, U, C, c, rfl, ho, ⟨hr, hl, hm⟩, k⟩
  walk_at "q"
  rw [own_room ho]
  walk_at "q"
  rw [own_lowest ho]
  walk_at "q"
  refine ⟨_, rfl, by omega, ?_⟩
  walk_at "q"
  rw [own_most ho]
  walk_at "q"
  rw [own_most ho]
  walk_at "q"
  refine ⟨by decide +kernel, lstP_of fun p1 h1 => ?_⟩
  have po : o ≠ p1 := by rintro rfl; rw [OwnD, h1] at ho; cases ho
  have ho1 : ∀ mm, OwnD (mset M p1 mm) o r y l m U C := fun mm => by rw [OwnD, mset_ne po]; exact ho
  walk_at "q"
  refine ⟨_, rfl, by omega, ?_⟩
  walk_at "q"
  refine ⟨_, rfl, by omega, ?_⟩
  walk_at "q"
  refine addM_of (sq_ref mset_same) rfl (show 2 + 3 ≤ sizeLine by decide +kernel) (fun p2 h2 => ?_)
  have po2 : o ≠ p2 := by
    rintro rfl
    rw [ho1] at h2
    cases h2
  have ho2 : ∀ mm, OwnD (mset (mset M p1 (.lst [PV.tup [.int (((10 ^ r.toNat : Nat) : Int) - 1), .int (m - r + 1)], PV.tup [.int 1, .int (m + 1)]])) p2 mm) o r y l m U C := fun mm => by rw [OwnD, mset_ne po2]; exact ho1 _
  walk_at "q"
  rw [own_least (ho2 _)]
  walk_at "q"
  refine ⟨by mul_fits, ?_⟩
  refine addM_of (sq_ref mset_same) rfl (show 5 + 2 ≤ sizeLine by decide +kernel) (fun p3 h3 => ?_)
  walk_at "q"
  refine ⟨_, rfl, by omega, ?_⟩
  walk_at "q"
  refine ⟨by mul_fits, ?_⟩
  refine ⟨show 7 < sizeLine by decide +kernel, by mul_fits, ?_⟩
  obtain ⟨v, hv, e⟩ := atI_mem (xs := [PV.tup [.int (((10 ^ r.toNat : Nat) : Int) - 1), .int (m - r + 1)], PV.tup [.int 1, .int (m + 1)], PV.tup [.int 1, .int (l - r + 1)], PV.tup [.int ((10 ^ (r - 1).toNat : Nat) : Int), .int (l - r + 1)], PV.tup [.int ((10 ^ r.toNat : Nat) : Int), .int (l - r + 1)], PV.tup [.int 1, .int l], PV.tup [.int 1, .int (c / 40 % 7 - 3)], PV.tup [.int (((10 ^ r.toNat : Nat) : Int) - 1), .int (c / 40 % 7 - 3)]]) (i := c / 4 % 8) (by omega) (by simp only [List.length_cons, List.length_nil]; omega)
  have t1 := ten_pos r.toNat
  have t2 := ten_pos (r - 1).toNat
  have t3 : 10 ^ r.toNat ≤ 10 ^ 24 := pow10_le (by omega)
  have t4 : 10 ^ (r - 1).toNat ≤ 10 ^ 24 := pow10_le (by omega)
  have hv : ∃ f w : Int, v = .tup [.int f, .int w] ∧ (0 ≤ f ∧ f ≤ 10 ^ 24) ∧ -100 ≤ w ∧ w ≤ 100 := by
    simp only [List.mem_cons, List.not_mem_nil, or_false] at hv
    rcases hv with rfl | rfl | rfl | rfl | rfl | rfl | rfl | rfl <;> exact ⟨_, _, rfl, by omega, by omega⟩
  obtain ⟨f, w, rfl, hf, hw⟩ := hv
  rw [e]
  clear e
  walk_at "q"
  have o3 : okP (c / 2 % 2) (max 0 (f + c / 300 % 3 - 1)) w := ⟨by omega, by omega, by omega⟩
  refine ⟨by mul_fits, by mul_fits, k _ ⟨"plain", c / 2 % 2, max 0 (f + c / 300 % 3 - 1), w⟩ (fun b hb => ?_) ⟨(fit_p o3).sm, .inl ⟨rfl, o3⟩⟩⟩
  have b1 : b ≠ p1 := by rintro rfl; exact hb h1
  have b2 : b ≠ p2 := by
    rintro rfl
    rw [mset_ne b1] at h2
    exact hb h2
  have b3 : b ≠ p3 := by
    rintro rfl
    rw [mset_ne b2, mset_ne b1] at h3
    exact hb h3
  rw [mset_ne b3, mset_ne b2, mset_ne b1]

/-! law -/
abbrev sp_law (T : Tx K mg) : SpQ := sLawT L_law_lam0.q T.lp_law
theorem sp_law_len (T : Tx K mg) : ∀ xs M Q E, sp_law T xs M Q E → xs.length = 1 := fun xs M Q E ⟨_, h, _⟩ => by rw [h]; rfl
theorem ok_law (T : Tx K mg) [TC : TabsIn base mg T.cs] : FnG P w K mg base 12 T.a_law T.d_law ["_law_script"] (sp_law T) := by
  refine okQG T.F_law sc_law (sp_law_len T) (fun A outer s0 H0 E hgd hr => ?_)
  have tk := takes_of (X := cxOf (L2.CX P w) P w K mg base ["_law_script", "_law_own_here", "_law_context_here", "_law_one", "_law_first", "_law_turn", "_law_sign", "_law_due_here"] "law" (defScope s_law) T.a_law T.d_law.code A outer s0 H0 E) (E := E) rfl rfl rfl rfl
  have po := passes_of (X := cxOf (L2.CX P w) P w K mg base ["_law_script", "_law_own_here", "_law_context_here", "_law_one", "_law_first", "_law_turn", "_law_sign", "_law_due_here"] "law" (defScope s_law) T.a_law T.d_law.code A outer s0 H0 E) rfl
  refine ⟨_, (qss_cons (qs_set 1 sc_law.nd (qe_call (ok__law_own T) (hr.mono (by decide)) T.m__law_own T.F__law_own.kp T.b__law_own tk (qa_cons (qe_call (ok__law_cell_at T) (hr.mono (by decide)) T.m__law_cell_at T.F__law_cell_at.kp T.b__law_cell_at tk (qa_cons (qv 0) (qa_cons qe_int qa_nil))) qa_nil)))
  (qss_cons (qs_set 2 sc_law.nd (qe_call (ok__law_context T) (hr.mono (by decide)) T.m__law_context T.F__law_context.kp T.b__law_context tk (qa_cons (qv 1) qa_nil)))
  (qss_cons (qs_set 3 sc_law.nd (qe_call (ok__law_number T) (hr.mono (by decide)) T.m__law_number T.F__law_number.kp T.b__law_number tk (qa_cons (qe_call (ok__law_cell_at T) (hr.mono (by decide)) T.m__law_cell_at T.F__law_cell_at.kp T.b__law_cell_at tk (qa_cons (qv 0) (qa_cons qe_int qa_nil))) qa_nil)))
  (qss_cons (qs_if (qt_cmp (oq_eq hr.units) (qe_bin oq_mod (qe_call (ok__law_cell_at T) (hr.mono (by decide)) T.m__law_cell_at T.F__law_cell_at.kp T.b__law_cell_at tk (qa_cons (qv 0) (qa_cons qe_int qa_nil))) qe_int) qe_int)
  (qss_one (qs_set 3 sc_law.nd (qe_call (ok__law_border T) (hr.mono (by decide)) T.m__law_border T.F__law_border.kp T.b__law_border tk (qa_cons (qv 1) (qa_cons (qe_call (ok__law_cell_at T) (hr.mono (by decide)) T.m__law_cell_at T.F__law_cell_at.kp T.b__law_cell_at tk (qa_cons (qv 0) (qa_cons qe_int qa_nil))) qa_nil)))))
  qss_nil)
  (qss_cons (qs_set 4 sc_law.nd (qe_call (ok__law_made T) (hr.mono (by decide)) T.m__law_made T.F__law_made.kp T.b__law_made tk (qa_cons (qv 3) qa_nil)))
  (qss_cons (qs_forR1 po rfl T.n_range (qa_cons qe_int qa_nil) (qg_name (i := 5) sc_law.nd)
  (qss_cons (qs_set 6 sc_law.nd (qe_bin oq_mod (qe_bin oq_add (qv 5) (qe_call (ok__law_cell_at T) (hr.mono (by decide)) T.m__law_cell_at T.F__law_cell_at.kp T.b__law_cell_at tk (qa_cons (qv 0) (qa_cons qe_int qa_nil)))) qe_int))
  (qss_cons (qs_set 7 sc_law.nd (qe_call (ok__law_due T) (hr.mono (by decide)) T.m__law_due T.F__law_due.kp T.b__law_due tk (qa_cons (qv 1) (qa_cons (qv 3) (qa_cons (qv 6) qa_nil)))))
  (qss_cons (qs_if (qt_not (qt_val (qe_callL L_law_lam0 [6, 4, 2] hgd (ok__law_stands T) hr T.m__law_stands T.F__law_stands.kp T.b__law_stands (qa_cons (qv 2) (qa_cons (qv 1) (qa_cons (qe_lam L_law_lam0 rfl (show LamX.TabB base mg T.lc_law T.lp_law from TC.tb (T.lc_law, T.lp_law) (by simp [Tx.cs])) T.hc_law rfl (freeB_in fb_law_lam0)) (qa_cons (qv 7) qa_nil)))) (freeB_ok fb_law_lam0) (fun _ => rfl) nx_law_lam0)))
  (qss_one (qs_ret qe_bl))
  qss_nil)
  (qss_one (qs_if (qt_cmp (oq_ne hr.units) (qe_call (ok_told T) (hr.mono (by decide)) T.m_told T.F_told.kp T.b_told tk (qa_cons (qv 4) qa_nil)) (qv 3))
  (qss_one (qs_ret qe_bl))
  qss_nil))))))
  (qss_one (qs_ret (qe_cmp (oq_eq hr.units) (qe_meth0 (qv 2) T.i_Context.cl T.M_Context_traps (ok_Context_traps T) (hr.mono (by decide)) T.b_Context_traps tk) (qe_dget (hu1 hr) (qv 1) qe_str)))))))))), ?_⟩
  clear tk po
  clear hr
  rintro xs M Q E ⟨ns, rfl, hl, hP, k⟩
  walk_at "s"
  refine ⟨ns, 0, rfl, by decide, ?_⟩
  walk_at "s"
  refine ⟨_, rfl, fun o M1 r y l m U C ho hM1 own1 hs hb => ?_⟩
  walk_at "s"
  refine ⟨o, r, y, l, m, U, C, rfl, own1, hs, hb, fun a d1 d2 M2 F C' ha hd12 hM2 c2 hF hC hF7 => ?_⟩
  walk_at "s"
  refine ⟨ns, 1, rfl, by decide, ?_⟩
  walk_at "s"
  refine ⟨_, rfl, fun n0 hn0 => ?_⟩
  walk_at "s"
  refine seq_cut (fun env M3 => ∃ n : Nu, n.V ∧ (∀ b, M2 b ≠ none → M3 b = M2 b) ∧ env = [some (.scr ns), some (.ref o), some (.ref a), some n.tup, none, none, none, none]) (fun R hR => ?_) ?_
  · walk_at "q"
    refine ⟨ns, 2, rfl, by decide, ?_⟩
    walk_at "q"
    refine iteP_of (fun h => ?_) (fun h => ?_)
    · walk_at "q"
      refine ⟨ns, 2, rfl, by decide, ?_⟩
      walk_at "q"
      refine ⟨o, r, y, l, m, U, C, _, rfl, (hM2 o (by rw [own1]; exact fun z => nomatch z)).trans own1, hb, fun M3 n hM3 hn => ?_⟩
      walk_at "q"
      exact hR _ _ ⟨n, hn, hM3, rfl⟩
    · walk_at "q"
      exact hR _ _ ⟨n0, hn0, fun _ _ => rfl, rfl⟩
  rintro _ M3 ⟨n, hn, hM3, rfl⟩
  walk_at "s"
  refine ⟨n, rfl, hn, ?_⟩
  walk_at "s"
  have ho3 : OwnD M3 o r y l m (flagsOf F) (flagsOf C') := by
    have e : M2 o = M1 o := hM2 o (by rw [own1]; exact fun z => nomatch z)
    show M3 o = _
    rw [hM3 o (by rw [e, own1]; exact fun z => nomatch z), e, own1, hF, hC]
  have hP3 : M3 T.lp_law = some (.tab L_law_lam0.q) := by
    have po : T.lp_law ≠ o := by rintro e; rw [e, ho] at hP; cases hP
    have e1 : M1 T.lp_law = some (.tab L_law_lam0.q) := by rw [hM1 _ po]; exact hP
    have e2 : M2 T.lp_law = some (.tab L_law_lam0.q) := (hM2 _ (by rw [e1]; exact fun z => nomatch z)).trans e1
    exact (hM3 _ (by rw [e2]; exact fun z => nomatch z)).trans e2
  have c3 : Ctx T M3 a d1 d2 y r l m F C' := by
    obtain ⟨w1, g1⟩ := c2.fl
    obtain ⟨w2, g2⟩ := c2.ca
    exact c2.to (hM3 a (by rw [c2.self]; exact fun z => nomatch z)) (hM3 d1 (by rw [g1]; exact fun z => nomatch z)) (hM3 d2 (by rw [g2]; exact fun z => nomatch z))
  have od : o ≠ d1 ∧ o ≠ d2 := by
    refine ⟨?_, ?_⟩ <;> rintro rfl
    · rw [own1] at hd12; exact nomatch hd12.1
    · rw [own1] at hd12; exact nomatch hd12.2
  have pd : T.lp_law ≠ d1 := by
    obtain ⟨v, e⟩ := c3.fl
    intro h
    rw [← h, hP3] at e
    cases e
  clear c2
  walk_at "q"
  refine rngP_of (by decide) (fun i env M' => ∃ (F' : List Str) (o5 o6 o7 : Option PV), env = [some (.scr ns), some (.ref o), some (.ref a), some n.tup, some (n.pv T.c_Number), o5, o6, o7] ∧ OwnD M' o r y l m (flagsOf F') (flagsOf C') ∧ Ctx T M' a d1 d2 y r l m F' C' ∧ M' T.lp_law = some (.tab L_law_lam0.q) ∧ F'.length ≤ 7 + 7 * i) ⟨F, none, none, none, rfl, ho3, c3, hP3, by omega⟩ ?_ ?_
  · rintro i env M' hi ⟨F', o5, o6, o7, rfl, ho', c', hP', hF'⟩
    walk_at "s"
    refine ⟨ns, 3, rfl, by decide, ?_⟩
    walk_at "s"
    have hs : 0 ≤ ((i : Int) + cell ns 3) % 2 ∧ ((i : Int) + cell ns 3) % 2 ≤ 1 := by omega
    generalize ((i : Int) + cell ns 3) % 2 = s at *
    refine ⟨o, r, y, l, m, _, _, n, s, rfl, ho', hb, ⟨hn, hs⟩, ?_⟩
    walk_at "s"
    have fit := fit_nex (r := r) (l := l) (m := m) hn hb.1 hb.2.1 hb.2.2 hs
    refine seq_cut (fun env M2 => env = [some (.scr ns), some (.ref o), some (.ref a), some n.tup, some (n.pv T.c_Number), some (.int (i : Nat)), some (.int s), some (.tup [(nexV r l m n s).tup, .lst []])] ∧ OwnD M2 o r y l m (flagsOf F') (flagsOf C') ∧ Ctx T M2 a d1 d2 y r l m F' C' ∧ M2 T.lp_law = some (.tab L_law_lam0.q)) (fun R hR => ?_) ?_
    · walk_at "q"
      refine ⟨hP', fun f hf => ?_⟩
      walk_at "q"
      have fo : o ≠ f := by rintro rfl; rw [OwnD, hf] at ho'; cases ho'
      have fa : a ≠ f := by rintro rfl; rw [c'.self] at hf; cases hf
      have f1 : d1 ≠ f := by obtain ⟨w, e⟩ := c'.fl; rintro rfl; rw [e] at hf; cases hf
      have f2 : d2 ≠ f := by obtain ⟨w, e⟩ := c'.ca; rintro rfl; rw [e] at hf; cases hf
      have fp : T.lp_law ≠ f := by rintro e; rw [e, hf] at hP'; cases hP'
      refine ⟨f, _, mset_same, rfl, ?_⟩
      rw [mset_mset]
      refine ⟨f, _, _, o, a, d1, d2, y, r, l, m, F', C', (nexV r l m n s, []), [], rfl, mset_same, c'.to (mset_ne fa) (mset_ne f1) (mset_ne f2), ⟨by rw [OwnD, mset_ne fo]; exact ho', od⟩, ⟨rfl, by decide, fit.sm, fit.kd⟩, ?_, fun M2 hK hf2 c2' ho2 => ⟨hf2, ?_⟩⟩
      · intro M2 Q2 E2 cc k2
        exact ⟨n, s, a, d1, d2, y, r, l, m, F', C', rfl, cc, hn, hs, k2⟩
      · walk_at "q"
        refine hR _ _ ⟨rfl, calm_dic ho2, c2'.calm, ?_⟩
        have pd1 : ¬ (T.lp_law = d1 ∨ T.lp_law = o) := by
          rintro (e | e)
          · exact pd e
          · rw [e, ho'] at hP'; cases hP'
        exact calm_is (hK.tab pd1 (by rw [mset_ne fp]; exact hP')) (fun _ _ _ z => nomatch z)
    rintro _ M2 ⟨rfl, ho2, c2', hP2⟩
    walk_at "q"
    refine ⟨n.k, n.s, n.f, n.p, rfl, ?_⟩
    walk_at "q"
    rw [show n.tup = .tup [.str (Str.ofString n.k), .int n.s, .int n.f, .int n.p] from rfl, ne_t (xs := [.str (Str.ofString n.k), .int n.s, .int n.f, .int n.p]) rfl (by simp [pdeps, pdep])]
    walk_at "q"
    exact ⟨F', _, _, _, rfl, ho2, c2', hP2, by omega⟩
  · rintro env M' ⟨F', o5, o6, o7, rfl, ho', c', hP', hF'⟩
    walk_at "q"
    rw [mthw_Context_traps T c'.self]
    walk_at "q"
    refine ⟨a, d1, d2, y, r, l, m, _, C', rfl, c', ?_⟩
    walk_at "q"
    rw [own_trapped ho']
    walk_at "q"
    rw [eq_l (xs := (flagsOf C').map PV.str) (dat0s_str _).1 (by rw [(dat0s_str _).2]; decide)]
    exact k _

end
theorem all_mk {P : Program} {w : World} {K : PySem.W.Frag} {h : Heap} {mg : Str → Option Value} {fa : Addr} (X : K.In h) (G : h.Ns mainGlobals mg) (hfa : mg "law" = some (.ref fa))
    {a_is_whole : Addr}
    {a_Number___init__ : Addr}
    {a_plain : Addr}
    {a_end : Addr}
    {a_nothing : Addr}
    {a_need_number : Addr}
    {a_told : Addr}
    {a_ten_to : Addr}
    {a_count_of : Addr}
    {a_lead_of : Addr}
    {a_part_of : Addr}
    {a_Ratio___init__ : Addr}
    {a_Ratio_at : Addr}
    {a_Way_name : Addr}
    {a_Up_name : Addr}
    {a_Floor_name : Addr}
    {a_Ceiling_name : Addr}
    {a_HalfUp_name : Addr}
    {a_HalfDown_name : Addr}
    {a_HalfEven_name : Addr}
    {a_FiveUp_name : Addr}
    {a_half_way : Addr}
    {a_way_of : Addr}
    {a_need : Addr}
    {a_is_signal : Addr}
    {a_Context___init__ : Addr}
    {a_Context_lowest : Addr}
    {a_Context_flags : Addr}
    {a_Context_trap : Addr}
    {a_Context_traps : Addr}
    {a_Context_raised : Addr}
    {a_greatest_of : Addr}
    {a_last_place : Addr}
    {a_one_farther : Addr}
    {a_one_nearer : Addr}
    {a_next_to : Addr}
    {a_next_up : Addr}
    {a_next_down : Addr}
    {a__law_cell_at : Addr}
    {a__law_mixed : Addr}
    {a__law_ten : Addr}
    {a__law_figures : Addr}
    {a__law_number : Addr}
    {a__law_made : Addr}
    {a__law_own : Addr}
    {a__law_context : Addr}
    {a__law_gone : Addr}
    {a__law_tried : Addr}
    {a__law_stands : Addr}
    {a__law_shown : Addr}
    {a__law_most : Addr}
    {a__law_grid : Addr}
    {a__law_farther : Addr}
    {a__law_nearer : Addr}
    {a__law_due : Addr}
    {a__law_border : Addr}
    {a_law : Addr}
    {lc_law : Addr}
    {lp_law : Addr}
    {c_ReckonError : Addr}
    {c_BadNumber : Addr}
    {c_BadContext : Addr}
    {c_Trapped : Addr}
    {c_Number : Addr}
    {c_Ratio : Addr}
    {c_Way : Addr}
    {c_Down : Addr}
    {c_Up : Addr}
    {c_Floor : Addr}
    {c_Ceiling : Addr}
    {c_HalfUp : Addr}
    {c_HalfDown : Addr}
    {c_HalfEven : Addr}
    {c_FiveUp : Addr}
    {c_Context : Addr}
    {a_Trapped___init__ : Addr}
    {ta_SIGNALS : Addr}
    {ta_WAYS : Addr}
    (h_a_is_whole : PySem.W.nsIn K mainGlobals "is_whole" = some (some (.ref a_is_whole)))
    (h_F_is_whole : ∃ d, FunD K "is_whole" "is_whole" (defArgs s_is_whole) (defBody s_is_whole) (defScope s_is_whole) [] [] a_is_whole d)
    (h_F_Number___init__ : ∃ d, FunD K "__init__" "Number.__init__" (defArgs s_Number___init__) (defBody s_Number___init__) (defScope s_Number___init__) [] [] a_Number___init__ d)
    (h_a_plain : PySem.W.nsIn K mainGlobals "plain" = some (some (.ref a_plain)))
    (h_F_plain : ∃ d, FunD K "plain" "plain" (defArgs s_plain) (defBody s_plain) (defScope s_plain) [] [] a_plain d)
    (h_a_end : PySem.W.nsIn K mainGlobals "end" = some (some (.ref a_end)))
    (h_F_end : ∃ d, FunD K "end" "end" (defArgs s_end) (defBody s_end) (defScope s_end) [] [] a_end d)
    (h_a_nothing : PySem.W.nsIn K mainGlobals "nothing" = some (some (.ref a_nothing)))
    (h_F_nothing : ∃ d, FunD K "nothing" "nothing" (defArgs s_nothing) (defBody s_nothing) (defScope s_nothing) [] [] a_nothing d)
    (h_a_need_number : PySem.W.nsIn K mainGlobals "need_number" = some (some (.ref a_need_number)))
    (h_F_need_number : ∃ d, FunD K "need_number" "need_number" (defArgs s_need_number) (defBody s_need_number) (defScope s_need_number) [] [] a_need_number d)
    (h_a_told : PySem.W.nsIn K mainGlobals "told" = some (some (.ref a_told)))
    (h_F_told : ∃ d, FunD K "told" "told" (defArgs s_told) (defBody s_told) (defScope s_told) [] [] a_told d)
    (h_a_ten_to : PySem.W.nsIn K mainGlobals "ten_to" = some (some (.ref a_ten_to)))
    (h_F_ten_to : ∃ d, FunD K "ten_to" "ten_to" (defArgs s_ten_to) (defBody s_ten_to) (defScope s_ten_to) [] [] a_ten_to d)
    (h_a_count_of : PySem.W.nsIn K mainGlobals "count_of" = some (some (.ref a_count_of)))
    (h_F_count_of : ∃ d, FunD K "count_of" "count_of" (defArgs s_count_of) (defBody s_count_of) (defScope s_count_of) [] [] a_count_of d)
    (h_a_lead_of : PySem.W.nsIn K mainGlobals "lead_of" = some (some (.ref a_lead_of)))
    (h_F_lead_of : ∃ d, FunD K "lead_of" "lead_of" (defArgs s_lead_of) (defBody s_lead_of) (defScope s_lead_of) [] [] a_lead_of d)
    (h_a_part_of : PySem.W.nsIn K mainGlobals "part_of" = some (some (.ref a_part_of)))
    (h_F_part_of : ∃ d, FunD K "part_of" "part_of" (defArgs s_part_of) (defBody s_part_of) (defScope s_part_of) [] [] a_part_of d)
    (h_F_Ratio___init__ : ∃ d, FunD K "__init__" "Ratio.__init__" (defArgs s_Ratio___init__) (defBody s_Ratio___init__) (defScope s_Ratio___init__) [V.int 0] [] a_Ratio___init__ d)
    (h_F_Ratio_at : ∃ d, FunD K "at" "Ratio.at" (defArgs s_Ratio_at) (defBody s_Ratio_at) (defScope s_Ratio_at) [] [] a_Ratio_at d)
    (h_F_Way_name : ∃ d, FunD K "name" "Way.name" (defArgs s_Way_name) (defBody s_Way_name) (defScope s_Way_name) [] [] a_Way_name d)
    (h_F_Up_name : ∃ d, FunD K "name" "Up.name" (defArgs s_Up_name) (defBody s_Up_name) (defScope s_Up_name) [] [] a_Up_name d)
    (h_F_Floor_name : ∃ d, FunD K "name" "Floor.name" (defArgs s_Floor_name) (defBody s_Floor_name) (defScope s_Floor_name) [] [] a_Floor_name d)
    (h_F_Ceiling_name : ∃ d, FunD K "name" "Ceiling.name" (defArgs s_Ceiling_name) (defBody s_Ceiling_name) (defScope s_Ceiling_name) [] [] a_Ceiling_name d)
    (h_F_HalfUp_name : ∃ d, FunD K "name" "HalfUp.name" (defArgs s_HalfUp_name) (defBody s_HalfUp_name) (defScope s_HalfUp_name) [] [] a_HalfUp_name d)
    (h_F_HalfDown_name : ∃ d, FunD K "name" "HalfDown.name" (defArgs s_HalfDown_name) (defBody s_HalfDown_name) (defScope s_HalfDown_name) [] [] a_HalfDown_name d)
    (h_F_HalfEven_name : ∃ d, FunD K "name" "HalfEven.name" (defArgs s_HalfEven_name) (defBody s_HalfEven_name) (defScope s_HalfEven_name) [] [] a_HalfEven_name d)
    (h_F_FiveUp_name : ∃ d, FunD K "name" "FiveUp.name" (defArgs s_FiveUp_name) (defBody s_FiveUp_name) (defScope s_FiveUp_name) [] [] a_FiveUp_name d)
    (h_a_half_way : PySem.W.nsIn K mainGlobals "half_way" = some (some (.ref a_half_way)))
    (h_F_half_way : ∃ d, FunD K "half_way" "half_way" (defArgs s_half_way) (defBody s_half_way) (defScope s_half_way) [] [] a_half_way d)
    (h_a_way_of : PySem.W.nsIn K mainGlobals "way_of" = some (some (.ref a_way_of)))
    (h_F_way_of : ∃ d, FunD K "way_of" "way_of" (defArgs s_way_of) (defBody s_way_of) (defScope s_way_of) [] [] a_way_of d)
    (h_a_need : PySem.W.nsIn K mainGlobals "need" = some (some (.ref a_need)))
    (h_F_need : ∃ d, FunD K "need" "need" (defArgs s_need) (defBody s_need) (defScope s_need) [] [] a_need d)
    (h_a_is_signal : PySem.W.nsIn K mainGlobals "is_signal" = some (some (.ref a_is_signal)))
    (h_F_is_signal : ∃ d, FunD K "is_signal" "is_signal" (defArgs s_is_signal) (defBody s_is_signal) (defScope s_is_signal) [] [] a_is_signal d)
    (h_F_Context___init__ : ∃ d, FunD K "__init__" "Context.__init__" (defArgs s_Context___init__) (defBody s_Context___init__) (defScope s_Context___init__) [V.int 9, V.str "half even", V.non, V.int 60] [] a_Context___init__ d)
    (h_F_Context_lowest : ∃ d, FunD K "lowest" "Context.lowest" (defArgs s_Context_lowest) (defBody s_Context_lowest) (defScope s_Context_lowest) [] [] a_Context_lowest d)
    (h_F_Context_flags : ∃ d, FunD K "flags" "Context.flags" (defArgs s_Context_flags) (defBody s_Context_flags) (defScope s_Context_flags) [] [] a_Context_flags d)
    (h_F_Context_trap : ∃ d, FunD K "trap" "Context.trap" (defArgs s_Context_trap) (defBody s_Context_trap) (defScope s_Context_trap) [] [] a_Context_trap d)
    (h_F_Context_traps : ∃ d, FunD K "traps" "Context.traps" (defArgs s_Context_traps) (defBody s_Context_traps) (defScope s_Context_traps) [] [] a_Context_traps d)
    (h_F_Context_raised : ∃ d, FunD K "raised" "Context.raised" (defArgs s_Context_raised) (defBody s_Context_raised) (defScope s_Context_raised) [] [] a_Context_raised d)
    (h_a_greatest_of : PySem.W.nsIn K mainGlobals "greatest_of" = some (some (.ref a_greatest_of)))
    (h_F_greatest_of : ∃ d, FunD K "greatest_of" "greatest_of" (defArgs s_greatest_of) (defBody s_greatest_of) (defScope s_greatest_of) [] [] a_greatest_of d)
    (h_a_last_place : PySem.W.nsIn K mainGlobals "last_place" = some (some (.ref a_last_place)))
    (h_F_last_place : ∃ d, FunD K "last_place" "last_place" (defArgs s_last_place) (defBody s_last_place) (defScope s_last_place) [] [] a_last_place d)
    (h_a_one_farther : PySem.W.nsIn K mainGlobals "one_farther" = some (some (.ref a_one_farther)))
    (h_F_one_farther : ∃ d, FunD K "one_farther" "one_farther" (defArgs s_one_farther) (defBody s_one_farther) (defScope s_one_farther) [] [] a_one_farther d)
    (h_a_one_nearer : PySem.W.nsIn K mainGlobals "one_nearer" = some (some (.ref a_one_nearer)))
    (h_F_one_nearer : ∃ d, FunD K "one_nearer" "one_nearer" (defArgs s_one_nearer) (defBody s_one_nearer) (defScope s_one_nearer) [] [] a_one_nearer d)
    (h_a_next_to : PySem.W.nsIn K mainGlobals "next_to" = some (some (.ref a_next_to)))
    (h_F_next_to : ∃ d, FunD K "next_to" "next_to" (defArgs s_next_to) (defBody s_next_to) (defScope s_next_to) [] [] a_next_to d)
    (h_a_next_up : PySem.W.nsIn K mainGlobals "next_up" = some (some (.ref a_next_up)))
    (h_F_next_up : ∃ d, FunD K "next_up" "next_up" (defArgs s_next_up) (defBody s_next_up) (defScope s_next_up) [] [] a_next_up d)
    (h_a_next_down : PySem.W.nsIn K mainGlobals "next_down" = some (some (.ref a_next_down)))
    (h_F_next_down : ∃ d, FunD K "next_down" "next_down" (defArgs s_next_down) (defBody s_next_down) (defScope s_next_down) [] [] a_next_down d)
    (h_a__law_cell_at : PySem.W.nsIn K mainGlobals "_law_cell_at" = some (some (.ref a__law_cell_at)))
    (h_F__law_cell_at : ∃ d, FunD K "_law_cell_at" "_law_cell_at" (defArgs s__law_cell_at) (defBody s__law_cell_at) (defScope s__law_cell_at) [] [] a__law_cell_at d)
    (h_a__law_mixed : PySem.W.nsIn K mainGlobals "_law_mixed" = some (some (.ref a__law_mixed)))
    (h_F__law_mixed : ∃ d, FunD K "_law_mixed" "_law_mixed" (defArgs s__law_mixed) (defBody s__law_mixed) (defScope s__law_mixed) [] [] a__law_mixed d)
    (h_a__law_ten : PySem.W.nsIn K mainGlobals "_law_ten" = some (some (.ref a__law_ten)))
    (h_F__law_ten : ∃ d, FunD K "_law_ten" "_law_ten" (defArgs s__law_ten) (defBody s__law_ten) (defScope s__law_ten) [] [] a__law_ten d)
    (h_a__law_figures : PySem.W.nsIn K mainGlobals "_law_figures" = some (some (.ref a__law_figures)))
    (h_F__law_figures : ∃ d, FunD K "_law_figures" "_law_figures" (defArgs s__law_figures) (defBody s__law_figures) (defScope s__law_figures) [] [] a__law_figures d)
    (h_a__law_number : PySem.W.nsIn K mainGlobals "_law_number" = some (some (.ref a__law_number)))
    (h_F__law_number : ∃ d, FunD K "_law_number" "_law_number" (defArgs s__law_number) (defBody s__law_number) (defScope s__law_number) [] [] a__law_number d)
    (h_a__law_made : PySem.W.nsIn K mainGlobals "_law_made" = some (some (.ref a__law_made)))
    (h_F__law_made : ∃ d, FunD K "_law_made" "_law_made" (defArgs s__law_made) (defBody s__law_made) (defScope s__law_made) [] [] a__law_made d)
    (h_a__law_own : PySem.W.nsIn K mainGlobals "_law_own" = some (some (.ref a__law_own)))
    (h_F__law_own : ∃ d, FunD K "_law_own" "_law_own" (defArgs s__law_own) (defBody s__law_own) (defScope s__law_own) [] [] a__law_own d)
    (h_a__law_context : PySem.W.nsIn K mainGlobals "_law_context" = some (some (.ref a__law_context)))
    (h_F__law_context : ∃ d, FunD K "_law_context" "_law_context" (defArgs s__law_context) (defBody s__law_context) (defScope s__law_context) [] [] a__law_context d)
    (h_a__law_gone : PySem.W.nsIn K mainGlobals "_law_gone" = some (some (.ref a__law_gone)))
    (h_F__law_gone : ∃ d, FunD K "_law_gone" "_law_gone" (defArgs s__law_gone) (defBody s__law_gone) (defScope s__law_gone) [] [] a__law_gone d)
    (h_a__law_tried : PySem.W.nsIn K mainGlobals "_law_tried" = some (some (.ref a__law_tried)))
    (h_F__law_tried : ∃ d, FunD K "_law_tried" "_law_tried" (defArgs s__law_tried) (defBody s__law_tried) (defScope s__law_tried) [] [] a__law_tried d)
    (h_a__law_stands : PySem.W.nsIn K mainGlobals "_law_stands" = some (some (.ref a__law_stands)))
    (h_F__law_stands : ∃ d, FunD K "_law_stands" "_law_stands" (defArgs s__law_stands) (defBody s__law_stands) (defScope s__law_stands) [] [] a__law_stands d)
    (h_a__law_shown : PySem.W.nsIn K mainGlobals "_law_shown" = some (some (.ref a__law_shown)))
    (h_F__law_shown : ∃ d, FunD K "_law_shown" "_law_shown" (defArgs s__law_shown) (defBody s__law_shown) (defScope s__law_shown) [] [] a__law_shown d)
    (h_a__law_most : PySem.W.nsIn K mainGlobals "_law_most" = some (some (.ref a__law_most)))
    (h_F__law_most : ∃ d, FunD K "_law_most" "_law_most" (defArgs s__law_most) (defBody s__law_most) (defScope s__law_most) [] [] a__law_most d)
    (h_a__law_grid : PySem.W.nsIn K mainGlobals "_law_grid" = some (some (.ref a__law_grid)))
    (h_F__law_grid : ∃ d, FunD K "_law_grid" "_law_grid" (defArgs s__law_grid) (defBody s__law_grid) (defScope s__law_grid) [] [] a__law_grid d)
    (h_a__law_farther : PySem.W.nsIn K mainGlobals "_law_farther" = some (some (.ref a__law_farther)))
    (h_F__law_farther : ∃ d, FunD K "_law_farther" "_law_farther" (defArgs s__law_farther) (defBody s__law_farther) (defScope s__law_farther) [] [] a__law_farther d)
    (h_a__law_nearer : PySem.W.nsIn K mainGlobals "_law_nearer" = some (some (.ref a__law_nearer)))
    (h_F__law_nearer : ∃ d, FunD K "_law_nearer" "_law_nearer" (defArgs s__law_nearer) (defBody s__law_nearer) (defScope s__law_nearer) [] [] a__law_nearer d)
    (h_a__law_due : PySem.W.nsIn K mainGlobals "_law_due" = some (some (.ref a__law_due)))
    (h_F__law_due : ∃ d, FunD K "_law_due" "_law_due" (defArgs s__law_due) (defBody s__law_due) (defScope s__law_due) [] [] a__law_due d)
    (h_a__law_border : PySem.W.nsIn K mainGlobals "_law_border" = some (some (.ref a__law_border)))
    (h_F__law_border : ∃ d, FunD K "_law_border" "_law_border" (defArgs s__law_border) (defBody s__law_border) (defScope s__law_border) [] [] a__law_border d)
    (h_a_law : PySem.W.nsIn K mainGlobals "law" = some (some (.ref a_law)))
    (h_F_law : ∃ d, FunD K "law" "law" (defArgs s_law) (defBody s_law) (defScope s_law) [] [] a_law d)
    (h_hc_law : ∀ d, FunD K "law" "law" (defArgs s_law) (defBody s_law) (defScope s_law) [] [] a_law d → d.code = .ref lc_law)
    (h_n_ReckonError : PySem.W.nsIn K mainGlobals "ReckonError" = some (some (.ref c_ReckonError)))
    (h_n_BadNumber : PySem.W.nsIn K mainGlobals "BadNumber" = some (some (.ref c_BadNumber)))
    (h_n_BadContext : PySem.W.nsIn K mainGlobals "BadContext" = some (some (.ref c_BadContext)))
    (h_n_Trapped : PySem.W.nsIn K mainGlobals "Trapped" = some (some (.ref c_Trapped)))
    (h_n_Number : PySem.W.nsIn K mainGlobals "Number" = some (some (.ref c_Number)))
    (h_pg_Number : PySem.W.plainGet K c_Number Str.empty = true)
    (h_hd_Number : PySem.W.hasDictIn K c_Number = true)
    (h_po_Number : PySem.W.plainOver K c_Number = true)
    (h_sa_Number : PySem.W.findIn K (.ref c_Number) "__setattr__" = some (some (.builtin "object.__setattr__")))
    (h_ha_Number : PySem.W.findIn K (.ref c_Number) "__class__" = some (some (.builtin "object.__class__")))
    (h_hn_Number : PySem.W.specialIn K (.builtin "object.__class__") "__get__" = some (some (.builtin "getset_descriptor.__get__")))
    (h_htk_Number : PySem.W.takesIn K (.builtin "object.__class__") = some true)
    (h_hm_Number : PySem.W.mroIn K c_Number (.type "object") = some true)
    (h_mk_Number : PySem.W.makesIn K c_Number = true)
    (h_kc_Number : PySem.W.keepIn K (.ref c_Number) = true)
    (h_in_Number : PySem.W.findIn K (.ref c_Number) "__init__" = some (some (.ref a_Number___init__)))
    (h_if_Number : PySem.W.isFn K (.ref a_Number___init__) = true)
    (h_no_Number_kind : PySem.W.findIn K (.ref c_Number) "kind" = some none)
    (h_no_Number_sign : PySem.W.findIn K (.ref c_Number) "sign" = some none)
    (h_no_Number_figures : PySem.W.findIn K (.ref c_Number) "figures" = some none)
    (h_no_Number_power : PySem.W.findIn K (.ref c_Number) "power" = some none)
    (h_n_Ratio : PySem.W.nsIn K mainGlobals "Ratio" = some (some (.ref c_Ratio)))
    (h_pg_Ratio : PySem.W.plainGet K c_Ratio Str.empty = true)
    (h_hd_Ratio : PySem.W.hasDictIn K c_Ratio = true)
    (h_po_Ratio : PySem.W.plainOver K c_Ratio = true)
    (h_sa_Ratio : PySem.W.findIn K (.ref c_Ratio) "__setattr__" = some (some (.builtin "object.__setattr__")))
    (h_ha_Ratio : PySem.W.findIn K (.ref c_Ratio) "__class__" = some (some (.builtin "object.__class__")))
    (h_hn_Ratio : PySem.W.specialIn K (.builtin "object.__class__") "__get__" = some (some (.builtin "getset_descriptor.__get__")))
    (h_htk_Ratio : PySem.W.takesIn K (.builtin "object.__class__") = some true)
    (h_hm_Ratio : PySem.W.mroIn K c_Ratio (.type "object") = some true)
    (h_mk_Ratio : PySem.W.makesIn K c_Ratio = true)
    (h_kc_Ratio : PySem.W.keepIn K (.ref c_Ratio) = true)
    (h_in_Ratio : PySem.W.findIn K (.ref c_Ratio) "__init__" = some (some (.ref a_Ratio___init__)))
    (h_if_Ratio : PySem.W.isFn K (.ref a_Ratio___init__) = true)
    (h_no_Ratio_top : PySem.W.findIn K (.ref c_Ratio) "top" = some none)
    (h_no_Ratio_bottom : PySem.W.findIn K (.ref c_Ratio) "bottom" = some none)
    (h_no_Ratio_scale : PySem.W.findIn K (.ref c_Ratio) "scale" = some none)
    (h_n_Way : PySem.W.nsIn K mainGlobals "Way" = some (some (.ref c_Way)))
    (h_pg_Way : PySem.W.plainGet K c_Way Str.empty = true)
    (h_hd_Way : PySem.W.hasDictIn K c_Way = true)
    (h_po_Way : PySem.W.plainOver K c_Way = true)
    (h_sa_Way : PySem.W.findIn K (.ref c_Way) "__setattr__" = some (some (.builtin "object.__setattr__")))
    (h_ha_Way : PySem.W.findIn K (.ref c_Way) "__class__" = some (some (.builtin "object.__class__")))
    (h_hn_Way : PySem.W.specialIn K (.builtin "object.__class__") "__get__" = some (some (.builtin "getset_descriptor.__get__")))
    (h_htk_Way : PySem.W.takesIn K (.builtin "object.__class__") = some true)
    (h_hm_Way : PySem.W.mroIn K c_Way (.type "object") = some true)
    (h_n_Down : PySem.W.nsIn K mainGlobals "Down" = some (some (.ref c_Down)))
    (h_pg_Down : PySem.W.plainGet K c_Down Str.empty = true)
    (h_hd_Down : PySem.W.hasDictIn K c_Down = true)
    (h_po_Down : PySem.W.plainOver K c_Down = true)
    (h_sa_Down : PySem.W.findIn K (.ref c_Down) "__setattr__" = some (some (.builtin "object.__setattr__")))
    (h_ha_Down : PySem.W.findIn K (.ref c_Down) "__class__" = some (some (.builtin "object.__class__")))
    (h_hn_Down : PySem.W.specialIn K (.builtin "object.__class__") "__get__" = some (some (.builtin "getset_descriptor.__get__")))
    (h_htk_Down : PySem.W.takesIn K (.builtin "object.__class__") = some true)
    (h_hm_Down : PySem.W.mroIn K c_Down (.type "object") = some true)
    (h_n_Up : PySem.W.nsIn K mainGlobals "Up" = some (some (.ref c_Up)))
    (h_pg_Up : PySem.W.plainGet K c_Up Str.empty = true)
    (h_hd_Up : PySem.W.hasDictIn K c_Up = true)
    (h_po_Up : PySem.W.plainOver K c_Up = true)
    (h_sa_Up : PySem.W.findIn K (.ref c_Up) "__setattr__" = some (some (.builtin "object.__setattr__")))
    (h_ha_Up : PySem.W.findIn K (.ref c_Up) "__class__" = some (some (.builtin "object.__class__")))
    (h_hn_Up : PySem.W.specialIn K (.builtin "object.__class__") "__get__" = some (some (.builtin "getset_descriptor.__get__")))
    (h_htk_Up : PySem.W.takesIn K (.builtin "object.__class__") = some true)
    (h_hm_Up : PySem.W.mroIn K c_Up (.type "object") = some true)
    (h_n_Floor : PySem.W.nsIn K mainGlobals "Floor" = some (some (.ref c_Floor)))
    (h_pg_Floor : PySem.W.plainGet K c_Floor Str.empty = true)
    (h_hd_Floor : PySem.W.hasDictIn K c_Floor = true)
    (h_po_Floor : PySem.W.plainOver K c_Floor = true)
    (h_sa_Floor : PySem.W.findIn K (.ref c_Floor) "__setattr__" = some (some (.builtin "object.__setattr__")))
    (h_ha_Floor : PySem.W.findIn K (.ref c_Floor) "__class__" = some (some (.builtin "object.__class__")))
    (h_hn_Floor : PySem.W.specialIn K (.builtin "object.__class__") "__get__" = some (some (.builtin "getset_descriptor.__get__")))
    (h_htk_Floor : PySem.W.takesIn K (.builtin "object.__class__") = some true)
    (h_hm_Floor : PySem.W.mroIn K c_Floor (.type "object") = some true)
    (h_n_Ceiling : PySem.W.nsIn K mainGlobals "Ceiling" = some (some (.ref c_Ceiling)))
    (h_pg_Ceiling : PySem.W.plainGet K c_Ceiling Str.empty = true)
    (h_hd_Ceiling : PySem.W.hasDictIn K c_Ceiling = true)
    (h_po_Ceiling : PySem.W.plainOver K c_Ceiling = true)
    (h_sa_Ceiling : PySem.W.findIn K (.ref c_Ceiling) "__setattr__" = some (some (.builtin "object.__setattr__")))
    (h_ha_Ceiling : PySem.W.findIn K (.ref c_Ceiling) "__class__" = some (some (.builtin "object.__class__")))
    (h_hn_Ceiling : PySem.W.specialIn K (.builtin "object.__class__") "__get__" = some (some (.builtin "getset_descriptor.__get__")))
    (h_htk_Ceiling : PySem.W.takesIn K (.builtin "object.__class__") = some true)
    (h_hm_Ceiling : PySem.W.mroIn K c_Ceiling (.type "object") = some true)
    (h_n_HalfUp : PySem.W.nsIn K mainGlobals "HalfUp" = some (some (.ref c_HalfUp)))
    (h_pg_HalfUp : PySem.W.plainGet K c_HalfUp Str.empty = true)
    (h_hd_HalfUp : PySem.W.hasDictIn K c_HalfUp = true)
    (h_po_HalfUp : PySem.W.plainOver K c_HalfUp = true)
    (h_sa_HalfUp : PySem.W.findIn K (.ref c_HalfUp) "__setattr__" = some (some (.builtin "object.__setattr__")))
    (h_ha_HalfUp : PySem.W.findIn K (.ref c_HalfUp) "__class__" = some (some (.builtin "object.__class__")))
    (h_hn_HalfUp : PySem.W.specialIn K (.builtin "object.__class__") "__get__" = some (some (.builtin "getset_descriptor.__get__")))
    (h_htk_HalfUp : PySem.W.takesIn K (.builtin "object.__class__") = some true)
    (h_hm_HalfUp : PySem.W.mroIn K c_HalfUp (.type "object") = some true)
    (h_n_HalfDown : PySem.W.nsIn K mainGlobals "HalfDown" = some (some (.ref c_HalfDown)))
    (h_pg_HalfDown : PySem.W.plainGet K c_HalfDown Str.empty = true)
    (h_hd_HalfDown : PySem.W.hasDictIn K c_HalfDown = true)
    (h_po_HalfDown : PySem.W.plainOver K c_HalfDown = true)
    (h_sa_HalfDown : PySem.W.findIn K (.ref c_HalfDown) "__setattr__" = some (some (.builtin "object.__setattr__")))
    (h_ha_HalfDown : PySem.W.findIn K (.ref c_HalfDown) "__class__" = some (some (.builtin "object.__class__")))
    (h_hn_HalfDown : PySem.W.specialIn K (.builtin "object.__class__") "__get__" = some (some (.builtin "getset_descriptor.__get__")))
    (h_htk_HalfDown : PySem.W.takesIn K (.builtin "object.__class__") = some true)
    (h_hm_HalfDown : PySem.W.mroIn K c_HalfDown (.type "object") = some true)
    (h_n_HalfEven : PySem.W.nsIn K mainGlobals "HalfEven" = some (some (.ref c_HalfEven)))
    (h_pg_HalfEven : PySem.W.plainGet K c_HalfEven Str.empty = true)
    (h_hd_HalfEven : PySem.W.hasDictIn K c_HalfEven = true)
    (h_po_HalfEven : PySem.W.plainOver K c_HalfEven = true)
    (h_sa_HalfEven : PySem.W.findIn K (.ref c_HalfEven) "__setattr__" = some (some (.builtin "object.__setattr__")))
    (h_ha_HalfEven : PySem.W.findIn K (.ref c_HalfEven) "__class__" = some (some (.builtin "object.__class__")))
    (h_hn_HalfEven : PySem.W.specialIn K (.builtin "object.__class__") "__get__" = some (some (.builtin "getset_descriptor.__get__")))
    (h_htk_HalfEven : PySem.W.takesIn K (.builtin "object.__class__") = some true)
    (h_hm_HalfEven : PySem.W.mroIn K c_HalfEven (.type "object") = some true)
    (h_n_FiveUp : PySem.W.nsIn K mainGlobals "FiveUp" = some (some (.ref c_FiveUp)))
    (h_pg_FiveUp : PySem.W.plainGet K c_FiveUp Str.empty = true)
    (h_hd_FiveUp : PySem.W.hasDictIn K c_FiveUp = true)
    (h_po_FiveUp : PySem.W.plainOver K c_FiveUp = true)
    (h_sa_FiveUp : PySem.W.findIn K (.ref c_FiveUp) "__setattr__" = some (some (.builtin "object.__setattr__")))
    (h_ha_FiveUp : PySem.W.findIn K (.ref c_FiveUp) "__class__" = some (some (.builtin "object.__class__")))
    (h_hn_FiveUp : PySem.W.specialIn K (.builtin "object.__class__") "__get__" = some (some (.builtin "getset_descriptor.__get__")))
    (h_htk_FiveUp : PySem.W.takesIn K (.builtin "object.__class__") = some true)
    (h_hm_FiveUp : PySem.W.mroIn K c_FiveUp (.type "object") = some true)
    (h_n_Context : PySem.W.nsIn K mainGlobals "Context" = some (some (.ref c_Context)))
    (h_pg_Context : PySem.W.plainGet K c_Context Str.empty = true)
    (h_hd_Context : PySem.W.hasDictIn K c_Context = true)
    (h_po_Context : PySem.W.plainOver K c_Context = true)
    (h_sa_Context : PySem.W.findIn K (.ref c_Context) "__setattr__" = some (some (.builtin "object.__setattr__")))
    (h_ha_Context : PySem.W.findIn K (.ref c_Context) "__class__" = some (some (.builtin "object.__class__")))
    (h_hn_Context : PySem.W.specialIn K (.builtin "object.__class__") "__get__" = some (some (.builtin "getset_descriptor.__get__")))
    (h_htk_Context : PySem.W.takesIn K (.builtin "object.__class__") = some true)
    (h_hm_Context : PySem.W.mroIn K c_Context (.type "object") = some true)
    (h_mk_Context : PySem.W.makesIn K c_Context = true)
    (h_kc_Context : PySem.W.keepIn K (.ref c_Context) = true)
    (h_in_Context : PySem.W.findIn K (.ref c_Context) "__init__" = some (some (.ref a_Context___init__)))
    (h_if_Context : PySem.W.isFn K (.ref a_Context___init__) = true)
    (h_no_Context_manner : PySem.W.findIn K (.ref c_Context) "manner" = some none)
    (h_no_Context_room : PySem.W.findIn K (.ref c_Context) "room" = some none)
    (h_no_Context_least : PySem.W.findIn K (.ref c_Context) "least" = some none)
    (h_no_Context_most : PySem.W.findIn K (.ref c_Context) "most" = some none)
    (h_no_Context_standing : PySem.W.findIn K (.ref c_Context) "standing" = some none)
    (h_no_Context_caught : PySem.W.findIn K (.ref c_Context) "caught" = some none)
    (h_z_all : PySem.W.nsIn K mainGlobals "all" = some none)
    (h_z_bool : PySem.W.nsIn K mainGlobals "bool" = some none)
    (h_z_dict : PySem.W.nsIn K mainGlobals "dict" = some none)
    (h_z_divmod : PySem.W.nsIn K mainGlobals "divmod" = some none)
    (h_z_int : PySem.W.nsIn K mainGlobals "int" = some none)
    (h_z_isinstance : PySem.W.nsIn K mainGlobals "isinstance" = some none)
    (h_z_len : PySem.W.nsIn K mainGlobals "len" = some none)
    (h_z_list : PySem.W.nsIn K mainGlobals "list" = some none)
    (h_z_max : PySem.W.nsIn K mainGlobals "max" = some none)
    (h_z_min : PySem.W.nsIn K mainGlobals "min" = some none)
    (h_z_range : PySem.W.nsIn K mainGlobals "range" = some none)
    (h_z_str : PySem.W.nsIn K mainGlobals "str" = some none)
    (h_xx_BadContext : PySem.W.excIn K c_BadContext [.type "ValueError", .type "Exception", .type "BaseException", .type "object"] "ValueError.__new__" = true)
    (h_xk_BadContext : PySem.W.keepIn K (.ref c_BadContext) = true)
    (h_xb_BadContext : PySem.W.subIn K (.ref c_BadContext) (.type "BaseException") = some true)
    (h_xt_BadContext : PySem.W.typeIn K (.ref c_BadContext) = some (.type "type"))
    (h_xi_BadContext : PySem.W.isClsIn K c_BadContext = true)
    (h_xx_BadNumber : PySem.W.excIn K c_BadNumber [.type "ValueError", .type "Exception", .type "BaseException", .type "object"] "ValueError.__new__" = true)
    (h_xk_BadNumber : PySem.W.keepIn K (.ref c_BadNumber) = true)
    (h_xb_BadNumber : PySem.W.subIn K (.ref c_BadNumber) (.type "BaseException") = some true)
    (h_xt_BadNumber : PySem.W.typeIn K (.ref c_BadNumber) = some (.type "type"))
    (h_xi_BadNumber : PySem.W.isClsIn K c_BadNumber = true)
    (h_echg_Trapped : PySem.W.findIn K (.ref c_Trapped) "__getattribute__" = some (some (.builtin "BaseException.__getattribute__")))
    (h_echk_Trapped : PySem.W.findIn K (.ref c_Trapped) "__getattr__" = some none)
    (h_echs_Trapped : PySem.W.subIn K (.ref c_Trapped) (.type "BaseException") = some true)
    (h_echd_Trapped : PySem.W.hasDictIn K c_Trapped = true)
    (h_echa_Trapped : PySem.W.findIn K (.ref c_Trapped) "__class__" = some (some (.builtin "object.__class__")))
    (h_echn_Trapped : PySem.W.specialIn K (.builtin "object.__class__") "__get__" = some (some (.builtin "getset_descriptor.__get__")))
    (h_echt_Trapped : PySem.W.takesIn K (.builtin "object.__class__") = some true)
    (h_echm_Trapped : PySem.W.mroIn K c_Trapped (.type "object") = some true)
    (h_exm_Trapped_Trapped : PySem.W.exmOne K (.ref c_Trapped) (.ref c_Trapped) = some true)
    (h_mk0_Ceiling : PySem.W.makesIn K c_Ceiling = true)
    (h_in0_Ceiling : PySem.W.findIn K (.ref c_Ceiling) "__init__" = some (some (.builtin "object.__init__")))
    (h_kc0_Ceiling : PySem.W.keepIn K (.ref c_Ceiling) = true)
    (h_mk0_Down : PySem.W.makesIn K c_Down = true)
    (h_in0_Down : PySem.W.findIn K (.ref c_Down) "__init__" = some (some (.builtin "object.__init__")))
    (h_kc0_Down : PySem.W.keepIn K (.ref c_Down) = true)
    (h_mk0_FiveUp : PySem.W.makesIn K c_FiveUp = true)
    (h_in0_FiveUp : PySem.W.findIn K (.ref c_FiveUp) "__init__" = some (some (.builtin "object.__init__")))
    (h_kc0_FiveUp : PySem.W.keepIn K (.ref c_FiveUp) = true)
    (h_mk0_Floor : PySem.W.makesIn K c_Floor = true)
    (h_in0_Floor : PySem.W.findIn K (.ref c_Floor) "__init__" = some (some (.builtin "object.__init__")))
    (h_kc0_Floor : PySem.W.keepIn K (.ref c_Floor) = true)
    (h_mk0_HalfDown : PySem.W.makesIn K c_HalfDown = true)
    (h_in0_HalfDown : PySem.W.findIn K (.ref c_HalfDown) "__init__" = some (some (.builtin "object.__init__")))
    (h_kc0_HalfDown : PySem.W.keepIn K (.ref c_HalfDown) = true)
    (h_mk0_HalfEven : PySem.W.makesIn K c_HalfEven = true)
    (h_in0_HalfEven : PySem.W.findIn K (.ref c_HalfEven) "__init__" = some (some (.builtin "object.__init__")))
    (h_kc0_HalfEven : PySem.W.keepIn K (.ref c_HalfEven) = true)
    (h_mk0_HalfUp : PySem.W.makesIn K c_HalfUp = true)
    (h_in0_HalfUp : PySem.W.findIn K (.ref c_HalfUp) "__init__" = some (some (.builtin "object.__init__")))
    (h_kc0_HalfUp : PySem.W.keepIn K (.ref c_HalfUp) = true)
    (h_mk0_Up : PySem.W.makesIn K c_Up = true)
    (h_in0_Up : PySem.W.findIn K (.ref c_Up) "__init__" = some (some (.builtin "object.__init__")))
    (h_kc0_Up : PySem.W.keepIn K (.ref c_Up) = true)
    (h_M_Ceiling_name : PySem.W.findIn K (.ref c_Ceiling) "name" = some (some (.ref a_Ceiling_name)))
    (h_Mi_Ceiling_name : PySem.W.isFn K (.ref a_Ceiling_name) = true)
    (h_M_Context_flags : PySem.W.findIn K (.ref c_Context) "flags" = some (some (.ref a_Context_flags)))
    (h_Mi_Context_flags : PySem.W.isFn K (.ref a_Context_flags) = true)
    (h_M_Context_lowest : PySem.W.findIn K (.ref c_Context) "lowest" = some (some (.ref a_Context_lowest)))
    (h_Mi_Context_lowest : PySem.W.isFn K (.ref a_Context_lowest) = true)
    (h_M_Context_raised : PySem.W.findIn K (.ref c_Context) "raised" = some (some (.ref a_Context_raised)))
    (h_Mi_Context_raised : PySem.W.isFn K (.ref a_Context_raised) = true)
    (h_M_Context_trap : PySem.W.findIn K (.ref c_Context) "trap" = some (some (.ref a_Context_trap)))
    (h_Mi_Context_trap : PySem.W.isFn K (.ref a_Context_trap) = true)
    (h_M_Context_traps : PySem.W.findIn K (.ref c_Context) "traps" = some (some (.ref a_Context_traps)))
    (h_Mi_Context_traps : PySem.W.isFn K (.ref a_Context_traps) = true)
    (h_M_Down_name : PySem.W.findIn K (.ref c_Down) "name" = some (some (.ref a_Way_name)))
    (h_Mi_Down_name : PySem.W.isFn K (.ref a_Way_name) = true)
    (h_M_FiveUp_name : PySem.W.findIn K (.ref c_FiveUp) "name" = some (some (.ref a_FiveUp_name)))
    (h_Mi_FiveUp_name : PySem.W.isFn K (.ref a_FiveUp_name) = true)
    (h_M_Floor_name : PySem.W.findIn K (.ref c_Floor) "name" = some (some (.ref a_Floor_name)))
    (h_Mi_Floor_name : PySem.W.isFn K (.ref a_Floor_name) = true)
    (h_M_HalfDown_name : PySem.W.findIn K (.ref c_HalfDown) "name" = some (some (.ref a_HalfDown_name)))
    (h_Mi_HalfDown_name : PySem.W.isFn K (.ref a_HalfDown_name) = true)
    (h_M_HalfEven_name : PySem.W.findIn K (.ref c_HalfEven) "name" = some (some (.ref a_HalfEven_name)))
    (h_Mi_HalfEven_name : PySem.W.isFn K (.ref a_HalfEven_name) = true)
    (h_M_HalfUp_name : PySem.W.findIn K (.ref c_HalfUp) "name" = some (some (.ref a_HalfUp_name)))
    (h_Mi_HalfUp_name : PySem.W.isFn K (.ref a_HalfUp_name) = true)
    (h_M_Ratio_at : PySem.W.findIn K (.ref c_Ratio) "at" = some (some (.ref a_Ratio_at)))
    (h_Mi_Ratio_at : PySem.W.isFn K (.ref a_Ratio_at) = true)
    (h_M_Up_name : PySem.W.findIn K (.ref c_Up) "name" = some (some (.ref a_Up_name)))
    (h_Mi_Up_name : PySem.W.isFn K (.ref a_Up_name) = true)
    (h_F_Trapped___init__ : ∃ d, FunD K "__init__" "Trapped.__init__" (defArgs s_Trapped___init__) (defBody s_Trapped___init__) (defScope s_Trapped___init__) [] [] a_Trapped___init__ d)
    (h_tr_xo : PySem.TrapX.excOwnB K c_Trapped = true)
    (h_tr_sa : PySem.W.findIn K (.ref c_Trapped) "__setattr__" = some (some (.builtin "object.__setattr__")))
    (h_tr_ga : PySem.W.findIn K (.ref c_Trapped) "__getattribute__" = some (some (.builtin "BaseException.__getattribute__")))
    (h_tr_gg : PySem.W.findIn K (.ref c_Trapped) "__getattr__" = some none)
    (h_tr_nn : PySem.W.findIn K (.ref c_Trapped) "signal" = some none)
    (h_tr_ic : PySem.W.findIn K (.ref c_Trapped) "__init__" = some (some (.ref a_Trapped___init__)))
    (h_tr_tc : PySem.W.typeIn K (.ref a_Trapped___init__) = some (.type "function"))
    (h_tr_kc : PySem.W.keepIn K (.ref c_Trapped) = true)
    (h_tr_ex : PySem.W.subIn K (.ref c_Trapped) (.type "BaseException") = some true)
    (h_tr_ty : PySem.W.typeIn K (.ref c_Trapped) = some (.type "type"))
    (h_tr_hd : PySem.W.hasDictIn K c_Trapped = true)
    (h_tr_gb : PySem.W.specialIn K (.ref c_ReckonError) "__getattribute__" = some (some (.builtin "type.__getattribute__")))
    (h_tr_rb : PySem.W.readsIn K c_ReckonError (.type "type") = true)
    (h_tr_ib : PySem.W.findIn K (.ref c_ReckonError) "__init__" = some (some (.builtin "ValueError.__init__")))
    (h_tr_fb : (match PySem.W.findCls K (.ref c_ReckonError) (.type "type") "__init__" with | some (.val (.builtin z)) => decide (z = "ValueError.__init__") | _ => false) = true)
    (h_ic_Number : PySem.W.isClsIn K c_Number = true)
    (h_it_Number : PySem.W.typeIn K (.ref c_Number) = some (.type "type"))
    (h_is_Number_Number : PySem.W.subIn K (.ref c_Number) (.ref c_Number) = some true)
    (h_g_MOST_LEAD : ∃ t, mg "MOST_LEAD" = some (.int 60 t))
    (h_g_MOST_POWER : ∃ t, mg "MOST_POWER" = some (.int 200 t))
    (h_g_MOST_ROOM : ∃ t, mg "MOST_ROOM" = some (.int 24 t))
    (h_g_SIGNALS : PySem.W.nsIn K mainGlobals "SIGNALS" = some (some (.ref ta_SIGNALS)))
    (h_gl_SIGNALS : ∀ G : Hp, SqT K G ta_SIGNALS [V.str "void", V.str "split", V.str "burst", V.str "sunk", V.str "faint", V.str "off", V.str "cut"])
    (h_g_WAYS : PySem.W.nsIn K mainGlobals "WAYS" = some (some (.ref ta_WAYS)))
    (h_gl_WAYS : ∀ G : Hp, SqT K G ta_WAYS [V.str "down", V.str "up", V.str "floor", V.str "ceiling", V.str "half up", V.str "half down", V.str "half even", V.str "five up"])
    : ∃ fd : FuncData, (∀ (s : Shared) (v : Value), BindsTo s fd ⟨[v], []⟩ [("_law_script", v)]) ∧ ∀ base : Heap, K.In base → base.Ns mainGlobals mg → (∀ p ∈ [(lc_law, lp_law)], LamX.TabB base mg p.1 p.2) → FnG P w K mg base 12 fa fd ["_law_script"] (sLawT L_law_lam0.q lp_law) := by
  have e : fa = a_law := by
    have z := hfa.symm.trans (PySem.W.mg_of X G h_a_law)
    cases z
    rfl
  obtain ⟨d_is_whole, FD_is_whole⟩ := h_F_is_whole
  obtain ⟨d_Number___init__, FD_Number___init__⟩ := h_F_Number___init__
  obtain ⟨d_plain, FD_plain⟩ := h_F_plain
  obtain ⟨d_end, FD_end⟩ := h_F_end
  obtain ⟨d_nothing, FD_nothing⟩ := h_F_nothing
  obtain ⟨d_need_number, FD_need_number⟩ := h_F_need_number
  obtain ⟨d_told, FD_told⟩ := h_F_told
  obtain ⟨d_ten_to, FD_ten_to⟩ := h_F_ten_to
  obtain ⟨d_count_of, FD_count_of⟩ := h_F_count_of
  obtain ⟨d_lead_of, FD_lead_of⟩ := h_F_lead_of
  obtain ⟨d_part_of, FD_part_of⟩ := h_F_part_of
  obtain ⟨d_Ratio___init__, FD_Ratio___init__⟩ := h_F_Ratio___init__
  obtain ⟨d_Ratio_at, FD_Ratio_at⟩ := h_F_Ratio_at
  obtain ⟨d_Way_name, FD_Way_name⟩ := h_F_Way_name
  obtain ⟨d_Up_name, FD_Up_name⟩ := h_F_Up_name
  obtain ⟨d_Floor_name, FD_Floor_name⟩ := h_F_Floor_name
  obtain ⟨d_Ceiling_name, FD_Ceiling_name⟩ := h_F_Ceiling_name
  obtain ⟨d_HalfUp_name, FD_HalfUp_name⟩ := h_F_HalfUp_name
  obtain ⟨d_HalfDown_name, FD_HalfDown_name⟩ := h_F_HalfDown_name
  obtain ⟨d_HalfEven_name, FD_HalfEven_name⟩ := h_F_HalfEven_name
  obtain ⟨d_FiveUp_name, FD_FiveUp_name⟩ := h_F_FiveUp_name
  obtain ⟨d_half_way, FD_half_way⟩ := h_F_half_way
  obtain ⟨d_way_of, FD_way_of⟩ := h_F_way_of
  obtain ⟨d_need, FD_need⟩ := h_F_need
  obtain ⟨d_is_signal, FD_is_signal⟩ := h_F_is_signal
  obtain ⟨d_Context___init__, FD_Context___init__⟩ := h_F_Context___init__
  obtain ⟨d_Context_lowest, FD_Context_lowest⟩ := h_F_Context_lowest
  obtain ⟨d_Context_flags, FD_Context_flags⟩ := h_F_Context_flags
  obtain ⟨d_Context_trap, FD_Context_trap⟩ := h_F_Context_trap
  obtain ⟨d_Context_traps, FD_Context_traps⟩ := h_F_Context_traps
  obtain ⟨d_Context_raised, FD_Context_raised⟩ := h_F_Context_raised
  obtain ⟨d_greatest_of, FD_greatest_of⟩ := h_F_greatest_of
  obtain ⟨d_last_place, FD_last_place⟩ := h_F_last_place
  obtain ⟨d_one_farther, FD_one_farther⟩ := h_F_one_farther
  obtain ⟨d_one_nearer, FD_one_nearer⟩ := h_F_one_nearer
  obtain ⟨d_next_to, FD_next_to⟩ := h_F_next_to
  obtain ⟨d_next_up, FD_next_up⟩ := h_F_next_up
  obtain ⟨d_next_down, FD_next_down⟩ := h_F_next_down
  obtain ⟨d__law_cell_at, FD__law_cell_at⟩ := h_F__law_cell_at
  obtain ⟨d__law_mixed, FD__law_mixed⟩ := h_F__law_mixed
  obtain ⟨d__law_ten, FD__law_ten⟩ := h_F__law_ten
  obtain ⟨d__law_figures, FD__law_figures⟩ := h_F__law_figures
  obtain ⟨d__law_number, FD__law_number⟩ := h_F__law_number
  obtain ⟨d__law_made, FD__law_made⟩ := h_F__law_made
  obtain ⟨d__law_own, FD__law_own⟩ := h_F__law_own
  obtain ⟨d__law_context, FD__law_context⟩ := h_F__law_context
  obtain ⟨d__law_gone, FD__law_gone⟩ := h_F__law_gone
  obtain ⟨d__law_tried, FD__law_tried⟩ := h_F__law_tried
  obtain ⟨d__law_stands, FD__law_stands⟩ := h_F__law_stands
  obtain ⟨d__law_shown, FD__law_shown⟩ := h_F__law_shown
  obtain ⟨d__law_most, FD__law_most⟩ := h_F__law_most
  obtain ⟨d__law_grid, FD__law_grid⟩ := h_F__law_grid
  obtain ⟨d__law_farther, FD__law_farther⟩ := h_F__law_farther
  obtain ⟨d__law_nearer, FD__law_nearer⟩ := h_F__law_nearer
  obtain ⟨d__law_due, FD__law_due⟩ := h_F__law_due
  obtain ⟨d__law_border, FD__law_border⟩ := h_F__law_border
  obtain ⟨d_law, FD_law⟩ := h_F_law
  obtain ⟨d_Trapped___init__, FD_Trapped___init__⟩ := h_F_Trapped___init__
  obtain ⟨t_MOST_LEAD, h_g_MOST_LEAD⟩ := h_g_MOST_LEAD
  obtain ⟨t_MOST_POWER, h_g_MOST_POWER⟩ := h_g_MOST_POWER
  obtain ⟨t_MOST_ROOM, h_g_MOST_ROOM⟩ := h_g_MOST_ROOM
  have m_is_whole : mg "is_whole" = some (.ref a_is_whole) := PySem.W.mg_of X G h_a_is_whole
  have F_is_whole : Fun K "is_whole" "is_whole" s_is_whole a_is_whole d_is_whole := He5.fun_of FD_is_whole
  have b_is_whole : Binds K d_is_whole ["thing", "least", "most"] [] := FunD.bindsN (ps := ["thing", "least", "most"]) FD_is_whole fun _ _ _ _ _ _ us hl => match us, hl with | [_, _, _], _ => rfl
  have F_Number___init__ : FunD K "__init__" "Number.__init__" (defArgs s_Number___init__) (defBody s_Number___init__) (defScope s_Number___init__) [] [] a_Number___init__ d_Number___init__ := FD_Number___init__
  have m_plain : mg "plain" = some (.ref a_plain) := PySem.W.mg_of X G h_a_plain
  have F_plain : Fun K "plain" "plain" s_plain a_plain d_plain := He5.fun_of FD_plain
  have b_plain : Binds K d_plain ["sign", "figures", "power"] [] := FunD.bindsN (ps := ["sign", "figures", "power"]) FD_plain fun _ _ _ _ _ _ us hl => match us, hl with | [_, _, _], _ => rfl
  have m_end : mg "end" = some (.ref a_end) := PySem.W.mg_of X G h_a_end
  have F_end : Fun K "end" "end" s_end a_end d_end := He5.fun_of FD_end
  have b_end : Binds K d_end ["sign"] [] := FunD.bindsN (ps := ["sign"]) FD_end fun _ _ _ _ _ _ us hl => match us, hl with | [_], _ => rfl
  have m_nothing : mg "nothing" = some (.ref a_nothing) := PySem.W.mg_of X G h_a_nothing
  have F_nothing : Fun K "nothing" "nothing" s_nothing a_nothing d_nothing := He5.fun_of FD_nothing
  have b_nothing : Binds K d_nothing [] [] := FunD.bindsN (ps := []) FD_nothing fun _ _ _ _ _ _ us hl => match us, hl with | [], _ => rfl
  have m_need_number : mg "need_number" = some (.ref a_need_number) := PySem.W.mg_of X G h_a_need_number
  have F_need_number : Fun K "need_number" "need_number" s_need_number a_need_number d_need_number := He5.fun_of FD_need_number
  have b_need_number : Binds K d_need_number ["thing"] [] := FunD.bindsN (ps := ["thing"]) FD_need_number fun _ _ _ _ _ _ us hl => match us, hl with | [_], _ => rfl
  have m_told : mg "told" = some (.ref a_told) := PySem.W.mg_of X G h_a_told
  have F_told : Fun K "told" "told" s_told a_told d_told := He5.fun_of FD_told
  have b_told : Binds K d_told ["number"] [] := FunD.bindsN (ps := ["number"]) FD_told fun _ _ _ _ _ _ us hl => match us, hl with | [_], _ => rfl
  have m_ten_to : mg "ten_to" = some (.ref a_ten_to) := PySem.W.mg_of X G h_a_ten_to
  have F_ten_to : Fun K "ten_to" "ten_to" s_ten_to a_ten_to d_ten_to := He5.fun_of FD_ten_to
  have b_ten_to : Binds K d_ten_to ["power"] [] := FunD.bindsN (ps := ["power"]) FD_ten_to fun _ _ _ _ _ _ us hl => match us, hl with | [_], _ => rfl
  have m_count_of : mg "count_of" = some (.ref a_count_of) := PySem.W.mg_of X G h_a_count_of
  have F_count_of : Fun K "count_of" "count_of" s_count_of a_count_of d_count_of := He5.fun_of FD_count_of
  have b_count_of : Binds K d_count_of ["figures"] [] := FunD.bindsN (ps := ["figures"]) FD_count_of fun _ _ _ _ _ _ us hl => match us, hl with | [_], _ => rfl
  have m_lead_of : mg "lead_of" = some (.ref a_lead_of) := PySem.W.mg_of X G h_a_lead_of
  have F_lead_of : Fun K "lead_of" "lead_of" s_lead_of a_lead_of d_lead_of := He5.fun_of FD_lead_of
  have b_lead_of : Binds K d_lead_of ["number"] [] := FunD.bindsN (ps := ["number"]) FD_lead_of fun _ _ _ _ _ _ us hl => match us, hl with | [_], _ => rfl
  have m_part_of : mg "part_of" = some (.ref a_part_of) := PySem.W.mg_of X G h_a_part_of
  have F_part_of : Fun K "part_of" "part_of" s_part_of a_part_of d_part_of := He5.fun_of FD_part_of
  have b_part_of : Binds K d_part_of ["rest", "bottom"] [] := FunD.bindsN (ps := ["rest", "bottom"]) FD_part_of fun _ _ _ _ _ _ us hl => match us, hl with | [_, _], _ => rfl
  have F_Ratio___init__ : FunD K "__init__" "Ratio.__init__" (defArgs s_Ratio___init__) (defBody s_Ratio___init__) (defScope s_Ratio___init__) [V.int 0] [] a_Ratio___init__ d_Ratio___init__ := FD_Ratio___init__
  have F_Ratio_at : Fun K "at" "Ratio.at" s_Ratio_at a_Ratio_at d_Ratio_at := He5.fun_of FD_Ratio_at
  have b_Ratio_at : Binds K d_Ratio_at ["self", "power"] [] := FunD.bindsN (ps := ["self", "power"]) FD_Ratio_at fun _ _ _ _ _ _ us hl => match us, hl with | [_, _], _ => rfl
  have F_Way_name : Fun K "name" "Way.name" s_Way_name a_Way_name d_Way_name := He5.fun_of FD_Way_name
  have b_Way_name : Binds K d_Way_name ["self"] [] := FunD.bindsN (ps := ["self"]) FD_Way_name fun _ _ _ _ _ _ us hl => match us, hl with | [_], _ => rfl
  have F_Up_name : Fun K "name" "Up.name" s_Up_name a_Up_name d_Up_name := He5.fun_of FD_Up_name
  have b_Up_name : Binds K d_Up_name ["self"] [] := FunD.bindsN (ps := ["self"]) FD_Up_name fun _ _ _ _ _ _ us hl => match us, hl with | [_], _ => rfl
  have F_Floor_name : Fun K "name" "Floor.name" s_Floor_name a_Floor_name d_Floor_name := He5.fun_of FD_Floor_name
  have b_Floor_name : Binds K d_Floor_name ["self"] [] := FunD.bindsN (ps := ["self"]) FD_Floor_name fun _ _ _ _ _ _ us hl => match us, hl with | [_], _ => rfl
  have F_Ceiling_name : Fun K "name" "Ceiling.name" s_Ceiling_name a_Ceiling_name d_Ceiling_name := He5.fun_of FD_Ceiling_name
  have b_Ceiling_name : Binds K d_Ceiling_name ["self"] [] := FunD.bindsN (ps := ["self"]) FD_Ceiling_name fun _ _ _ _ _ _ us hl => match us, hl with | [_], _ => rfl
  have F_HalfUp_name : Fun K "name" "HalfUp.name" s_HalfUp_name a_HalfUp_name d_HalfUp_name := He5.fun_of FD_HalfUp_name
  have b_HalfUp_name : Binds K d_HalfUp_name ["self"] [] := FunD.bindsN (ps := ["self"]) FD_HalfUp_name fun _ _ _ _ _ _ us hl => match us, hl with | [_], _ => rfl
  have F_HalfDown_name : Fun K "name" "HalfDown.name" s_HalfDown_name a_HalfDown_name d_HalfDown_name := He5.fun_of FD_HalfDown_name
  have b_HalfDown_name : Binds K d_HalfDown_name ["self"] [] := FunD.bindsN (ps := ["self"]) FD_HalfDown_name fun _ _ _ _ _ _ us hl => match us, hl with | [_], _ => rfl
  have F_HalfEven_name : Fun K "name" "HalfEven.name" s_HalfEven_name a_HalfEven_name d_HalfEven_name := He5.fun_of FD_HalfEven_name
  have b_HalfEven_name : Binds K d_HalfEven_name ["self"] [] := FunD.bindsN (ps := ["self"]) FD_HalfEven_name fun _ _ _ _ _ _ us hl => match us, hl with | [_], _ => rfl
  have F_FiveUp_name : Fun K "name" "FiveUp.name" s_FiveUp_name a_FiveUp_name d_FiveUp_name := He5.fun_of FD_FiveUp_name
  have b_FiveUp_name : Binds K d_FiveUp_name ["self"] [] := FunD.bindsN (ps := ["self"]) FD_FiveUp_name fun _ _ _ _ _ _ us hl => match us, hl with | [_], _ => rfl
  have m_half_way : mg "half_way" = some (.ref a_half_way) := PySem.W.mg_of X G h_a_half_way
  have F_half_way : Fun K "half_way" "half_way" s_half_way a_half_way d_half_way := He5.fun_of FD_half_way
  have b_half_way : Binds K d_half_way ["name"] [] := FunD.bindsN (ps := ["name"]) FD_half_way fun _ _ _ _ _ _ us hl => match us, hl with | [_], _ => rfl
  have m_way_of : mg "way_of" = some (.ref a_way_of) := PySem.W.mg_of X G h_a_way_of
  have F_way_of : Fun K "way_of" "way_of" s_way_of a_way_of d_way_of := He5.fun_of FD_way_of
  have b_way_of : Binds K d_way_of ["name"] [] := FunD.bindsN (ps := ["name"]) FD_way_of fun _ _ _ _ _ _ us hl => match us, hl with | [_], _ => rfl
  have m_need : mg "need" = some (.ref a_need) := PySem.W.mg_of X G h_a_need
  have F_need : Fun K "need" "need" s_need a_need d_need := He5.fun_of FD_need
  have b_need : Binds K d_need ["good"] [] := FunD.bindsN (ps := ["good"]) FD_need fun _ _ _ _ _ _ us hl => match us, hl with | [_], _ => rfl
  have m_is_signal : mg "is_signal" = some (.ref a_is_signal) := PySem.W.mg_of X G h_a_is_signal
  have F_is_signal : Fun K "is_signal" "is_signal" s_is_signal a_is_signal d_is_signal := He5.fun_of FD_is_signal
  have b_is_signal : Binds K d_is_signal ["thing"] [] := FunD.bindsN (ps := ["thing"]) FD_is_signal fun _ _ _ _ _ _ us hl => match us, hl with | [_], _ => rfl
  have F_Context___init__ : FunD K "__init__" "Context.__init__" (defArgs s_Context___init__) (defBody s_Context___init__) (defScope s_Context___init__) [V.int 9, V.str "half even", V.non, V.int 60] [] a_Context___init__ d_Context___init__ := FD_Context___init__
  have F_Context_lowest : Fun K "lowest" "Context.lowest" s_Context_lowest a_Context_lowest d_Context_lowest := He5.fun_of FD_Context_lowest
  have b_Context_lowest : Binds K d_Context_lowest ["self"] [] := FunD.bindsN (ps := ["self"]) FD_Context_lowest fun _ _ _ _ _ _ us hl => match us, hl with | [_], _ => rfl
  have F_Context_flags : Fun K "flags" "Context.flags" s_Context_flags a_Context_flags d_Context_flags := He5.fun_of FD_Context_flags
  have b_Context_flags : Binds K d_Context_flags ["self"] [] := FunD.bindsN (ps := ["self"]) FD_Context_flags fun _ _ _ _ _ _ us hl => match us, hl with | [_], _ => rfl
  have F_Context_trap : Fun K "trap" "Context.trap" s_Context_trap a_Context_trap d_Context_trap := He5.fun_of FD_Context_trap
  have b_Context_trap : Binds K d_Context_trap ["self", "names"] [] := FunD.bindsN (ps := ["self", "names"]) FD_Context_trap fun _ _ _ _ _ _ us hl => match us, hl with | [_, _], _ => rfl
  have F_Context_traps : Fun K "traps" "Context.traps" s_Context_traps a_Context_traps d_Context_traps := He5.fun_of FD_Context_traps
  have b_Context_traps : Binds K d_Context_traps ["self"] [] := FunD.bindsN (ps := ["self"]) FD_Context_traps fun _ _ _ _ _ _ us hl => match us, hl with | [_], _ => rfl
  have F_Context_raised : Fun K "raised" "Context.raised" s_Context_raised a_Context_raised d_Context_raised := He5.fun_of FD_Context_raised
  have b_Context_raised : Binds K d_Context_raised ["self", "names"] [] := FunD.bindsN (ps := ["self", "names"]) FD_Context_raised fun _ _ _ _ _ _ us hl => match us, hl with | [_, _], _ => rfl
  have m_greatest_of : mg "greatest_of" = some (.ref a_greatest_of) := PySem.W.mg_of X G h_a_greatest_of
  have F_greatest_of : Fun K "greatest_of" "greatest_of" s_greatest_of a_greatest_of d_greatest_of := He5.fun_of FD_greatest_of
  have b_greatest_of : Binds K d_greatest_of ["context", "sign"] [] := FunD.bindsN (ps := ["context", "sign"]) FD_greatest_of fun _ _ _ _ _ _ us hl => match us, hl with | [_, _], _ => rfl
  have m_last_place : mg "last_place" = some (.ref a_last_place) := PySem.W.mg_of X G h_a_last_place
  have F_last_place : Fun K "last_place" "last_place" s_last_place a_last_place d_last_place := He5.fun_of FD_last_place
  have b_last_place : Binds K d_last_place ["context", "one"] [] := FunD.bindsN (ps := ["context", "one"]) FD_last_place fun _ _ _ _ _ _ us hl => match us, hl with | [_, _], _ => rfl
  have m_one_farther : mg "one_farther" = some (.ref a_one_farther) := PySem.W.mg_of X G h_a_one_farther
  have F_one_farther : Fun K "one_farther" "one_farther" s_one_farther a_one_farther d_one_farther := He5.fun_of FD_one_farther
  have b_one_farther : Binds K d_one_farther ["context", "one", "sign"] [] := FunD.bindsN (ps := ["context", "one", "sign"]) FD_one_farther fun _ _ _ _ _ _ us hl => match us, hl with | [_, _, _], _ => rfl
  have m_one_nearer : mg "one_nearer" = some (.ref a_one_nearer) := PySem.W.mg_of X G h_a_one_nearer
  have F_one_nearer : Fun K "one_nearer" "one_nearer" s_one_nearer a_one_nearer d_one_nearer := He5.fun_of FD_one_nearer
  have b_one_nearer : Binds K d_one_nearer ["context", "one"] [] := FunD.bindsN (ps := ["context", "one"]) FD_one_nearer fun _ _ _ _ _ _ us hl => match us, hl with | [_, _], _ => rfl
  have m_next_to : mg "next_to" = some (.ref a_next_to) := PySem.W.mg_of X G h_a_next_to
  have F_next_to : Fun K "next_to" "next_to" s_next_to a_next_to d_next_to := He5.fun_of FD_next_to
  have b_next_to : Binds K d_next_to ["context", "one", "sign"] [] := FunD.bindsN (ps := ["context", "one", "sign"]) FD_next_to fun _ _ _ _ _ _ us hl => match us, hl with | [_, _, _], _ => rfl
  have m_next_up : mg "next_up" = some (.ref a_next_up) := PySem.W.mg_of X G h_a_next_up
  have F_next_up : Fun K "next_up" "next_up" s_next_up a_next_up d_next_up := He5.fun_of FD_next_up
  have b_next_up : Binds K d_next_up ["context", "one"] [] := FunD.bindsN (ps := ["context", "one"]) FD_next_up fun _ _ _ _ _ _ us hl => match us, hl with | [_, _], _ => rfl
  have m_next_down : mg "next_down" = some (.ref a_next_down) := PySem.W.mg_of X G h_a_next_down
  have F_next_down : Fun K "next_down" "next_down" s_next_down a_next_down d_next_down := He5.fun_of FD_next_down
  have b_next_down : Binds K d_next_down ["context", "one"] [] := FunD.bindsN (ps := ["context", "one"]) FD_next_down fun _ _ _ _ _ _ us hl => match us, hl with | [_, _], _ => rfl
  have m__law_cell_at : mg "_law_cell_at" = some (.ref a__law_cell_at) := PySem.W.mg_of X G h_a__law_cell_at
  have F__law_cell_at : Fun K "_law_cell_at" "_law_cell_at" s__law_cell_at a__law_cell_at d__law_cell_at := He5.fun_of FD__law_cell_at
  have b__law_cell_at : Binds K d__law_cell_at ["_law_script", "_law_k"] [] := FunD.bindsN (ps := ["_law_script", "_law_k"]) FD__law_cell_at fun _ _ _ _ _ _ us hl => match us, hl with | [_, _], _ => rfl
  have m__law_mixed : mg "_law_mixed" = some (.ref a__law_mixed) := PySem.W.mg_of X G h_a__law_mixed
  have F__law_mixed : Fun K "_law_mixed" "_law_mixed" s__law_mixed a__law_mixed d__law_mixed := He5.fun_of FD__law_mixed
  have b__law_mixed : Binds K d__law_mixed ["_law_cell", "_law_k"] [] := FunD.bindsN (ps := ["_law_cell", "_law_k"]) FD__law_mixed fun _ _ _ _ _ _ us hl => match us, hl with | [_, _], _ => rfl
  have m__law_ten : mg "_law_ten" = some (.ref a__law_ten) := PySem.W.mg_of X G h_a__law_ten
  have F__law_ten : Fun K "_law_ten" "_law_ten" s__law_ten a__law_ten d__law_ten := He5.fun_of FD__law_ten
  have b__law_ten : Binds K d__law_ten ["_law_count"] [] := FunD.bindsN (ps := ["_law_count"]) FD__law_ten fun _ _ _ _ _ _ us hl => match us, hl with | [_], _ => rfl
  have m__law_figures : mg "_law_figures" = some (.ref a__law_figures) := PySem.W.mg_of X G h_a__law_figures
  have F__law_figures : Fun K "_law_figures" "_law_figures" s__law_figures a__law_figures d__law_figures := He5.fun_of FD__law_figures
  have b__law_figures : Binds K d__law_figures ["_law_cell", "_law_way"] [] := FunD.bindsN (ps := ["_law_cell", "_law_way"]) FD__law_figures fun _ _ _ _ _ _ us hl => match us, hl with | [_, _], _ => rfl
  have m__law_number : mg "_law_number" = some (.ref a__law_number) := PySem.W.mg_of X G h_a__law_number
  have F__law_number : Fun K "_law_number" "_law_number" s__law_number a__law_number d__law_number := He5.fun_of FD__law_number
  have b__law_number : Binds K d__law_number ["_law_cell"] [] := FunD.bindsN (ps := ["_law_cell"]) FD__law_number fun _ _ _ _ _ _ us hl => match us, hl with | [_], _ => rfl
  have m__law_made : mg "_law_made" = some (.ref a__law_made) := PySem.W.mg_of X G h_a__law_made
  have F__law_made : Fun K "_law_made" "_law_made" s__law_made a__law_made d__law_made := He5.fun_of FD__law_made
  have b__law_made : Binds K d__law_made ["_law_one"] [] := FunD.bindsN (ps := ["_law_one"]) FD__law_made fun _ _ _ _ _ _ us hl => match us, hl with | [_], _ => rfl
  have m__law_own : mg "_law_own" = some (.ref a__law_own) := PySem.W.mg_of X G h_a__law_own
  have F__law_own : Fun K "_law_own" "_law_own" s__law_own a__law_own d__law_own := He5.fun_of FD__law_own
  have b__law_own : Binds K d__law_own ["_law_cell"] [] := FunD.bindsN (ps := ["_law_cell"]) FD__law_own fun _ _ _ _ _ _ us hl => match us, hl with | [_], _ => rfl
  have m__law_context : mg "_law_context" = some (.ref a__law_context) := PySem.W.mg_of X G h_a__law_context
  have F__law_context : Fun K "_law_context" "_law_context" s__law_context a__law_context d__law_context := He5.fun_of FD__law_context
  have b__law_context : Binds K d__law_context ["_law_own_here"] [] := FunD.bindsN (ps := ["_law_own_here"]) FD__law_context fun _ _ _ _ _ _ us hl => match us, hl with | [_], _ => rfl
  have m__law_gone : mg "_law_gone" = some (.ref a__law_gone) := PySem.W.mg_of X G h_a__law_gone
  have F__law_gone : Fun K "_law_gone" "_law_gone" s__law_gone a__law_gone d__law_gone := He5.fun_of FD__law_gone
  have b__law_gone : Binds K d__law_gone ["_law_context_here", "_law_number_here", "_law_sign"] [] := FunD.bindsN (ps := ["_law_context_here", "_law_number_here", "_law_sign"]) FD__law_gone fun _ _ _ _ _ _ us hl => match us, hl with | [_, _, _], _ => rfl
  have m__law_tried : mg "_law_tried" = some (.ref a__law_tried) := PySem.W.mg_of X G h_a__law_tried
  have F__law_tried : Fun K "_law_tried" "_law_tried" s__law_tried a__law_tried d__law_tried := He5.fun_of FD__law_tried
  have b__law_tried : Binds K d__law_tried ["_law_deed"] [] := FunD.bindsN (ps := ["_law_deed"]) FD__law_tried fun _ _ _ _ _ _ us hl => match us, hl with | [_], _ => rfl
  have m__law_stands : mg "_law_stands" = some (.ref a__law_stands) := PySem.W.mg_of X G h_a__law_stands
  have F__law_stands : Fun K "_law_stands" "_law_stands" s__law_stands a__law_stands d__law_stands := He5.fun_of FD__law_stands
  have b__law_stands : Binds K d__law_stands ["_law_context_here", "_law_own_here", "_law_deed", "_law_due_here"] [] := FunD.bindsN (ps := ["_law_context_here", "_law_own_here", "_law_deed", "_law_due_here"]) FD__law_stands fun _ _ _ _ _ _ us hl => match us, hl with | [_, _, _, _], _ => rfl
  have m__law_shown : mg "_law_shown" = some (.ref a__law_shown) := PySem.W.mg_of X G h_a__law_shown
  have F__law_shown : Fun K "_law_shown" "_law_shown" s__law_shown a__law_shown d__law_shown := He5.fun_of FD__law_shown
  have b__law_shown : Binds K d__law_shown ["_law_own_here", "_law_sign", "_law_many"] [] := FunD.bindsN (ps := ["_law_own_here", "_law_sign", "_law_many"]) FD__law_shown fun _ _ _ _ _ _ us hl => match us, hl with | [_, _, _], _ => rfl
  have m__law_most : mg "_law_most" = some (.ref a__law_most) := PySem.W.mg_of X G h_a__law_most
  have F__law_most : Fun K "_law_most" "_law_most" s__law_most a__law_most d__law_most := He5.fun_of FD__law_most
  have b__law_most : Binds K d__law_most ["_law_own_here"] [] := FunD.bindsN (ps := ["_law_own_here"]) FD__law_most fun _ _ _ _ _ _ us hl => match us, hl with | [_], _ => rfl
  have m__law_grid : mg "_law_grid" = some (.ref a__law_grid) := PySem.W.mg_of X G h_a__law_grid
  have F__law_grid : Fun K "_law_grid" "_law_grid" s__law_grid a__law_grid d__law_grid := He5.fun_of FD__law_grid
  have b__law_grid : Binds K d__law_grid ["_law_own_here", "_law_one"] [] := FunD.bindsN (ps := ["_law_own_here", "_law_one"]) FD__law_grid fun _ _ _ _ _ _ us hl => match us, hl with | [_, _], _ => rfl
  have m__law_farther : mg "_law_farther" = some (.ref a__law_farther) := PySem.W.mg_of X G h_a__law_farther
  have F__law_farther : Fun K "_law_farther" "_law_farther" s__law_farther a__law_farther d__law_farther := He5.fun_of FD__law_farther
  have b__law_farther : Binds K d__law_farther ["_law_own_here", "_law_one", "_law_sign"] [] := FunD.bindsN (ps := ["_law_own_here", "_law_one", "_law_sign"]) FD__law_farther fun _ _ _ _ _ _ us hl => match us, hl with | [_, _, _], _ => rfl
  have m__law_nearer : mg "_law_nearer" = some (.ref a__law_nearer) := PySem.W.mg_of X G h_a__law_nearer
  have F__law_nearer : Fun K "_law_nearer" "_law_nearer" s__law_nearer a__law_nearer d__law_nearer := He5.fun_of FD__law_nearer
  have b__law_nearer : Binds K d__law_nearer ["_law_own_here", "_law_one"] [] := FunD.bindsN (ps := ["_law_own_here", "_law_one"]) FD__law_nearer fun _ _ _ _ _ _ us hl => match us, hl with | [_, _], _ => rfl
  have m__law_due : mg "_law_due" = some (.ref a__law_due) := PySem.W.mg_of X G h_a__law_due
  have F__law_due : Fun K "_law_due" "_law_due" s__law_due a__law_due d__law_due := He5.fun_of FD__law_due
  have b__law_due : Binds K d__law_due ["_law_own_here", "_law_one", "_law_sign"] [] := FunD.bindsN (ps := ["_law_own_here", "_law_one", "_law_sign"]) FD__law_due fun _ _ _ _ _ _ us hl => match us, hl with | [_, _, _], _ => rfl
  have m__law_border : mg "_law_border" = some (.ref a__law_border) := PySem.W.mg_of X G h_a__law_border
  have F__law_border : Fun K "_law_border" "_law_border" s__law_border a__law_border d__law_border := He5.fun_of FD__law_border
  have b__law_border : Binds K d__law_border ["_law_own_here", "_law_cell"] [] := FunD.bindsN (ps := ["_law_own_here", "_law_cell"]) FD__law_border fun _ _ _ _ _ _ us hl => match us, hl with | [_, _], _ => rfl
  have m_law : mg "law" = some (.ref a_law) := PySem.W.mg_of X G h_a_law
  have F_law : Fun K "law" "law" s_law a_law d_law := He5.fun_of FD_law
  have b_law : Binds K d_law ["_law_script"] [] := FunD.bindsN (ps := ["_law_script"]) FD_law fun _ _ _ _ _ _ us hl => match us, hl with | [_], _ => rfl
  have hc_law : d_law.code = .ref lc_law := h_hc_law _ FD_law
  have m_ReckonError : mg "ReckonError" = some (.ref c_ReckonError) := PySem.W.mg_of X G h_n_ReckonError
  have m_BadNumber : mg "BadNumber" = some (.ref c_BadNumber) := PySem.W.mg_of X G h_n_BadNumber
  have m_BadContext : mg "BadContext" = some (.ref c_BadContext) := PySem.W.mg_of X G h_n_BadContext
  have m_Trapped : mg "Trapped" = some (.ref c_Trapped) := PySem.W.mg_of X G h_n_Trapped
  have m_Number : mg "Number" = some (.ref c_Number) := PySem.W.mg_of X G h_n_Number
  have i_Number : ClsI K c_Number := ⟨⟨h_pg_Number, h_hd_Number, h_po_Number, h_sa_Number⟩, h_ha_Number, h_hn_Number, h_htk_Number, h_hm_Number⟩
  have mk_Number : Mk K c_Number a_Number___init__ := ⟨h_mk_Number, h_in_Number, h_if_Number, h_kc_Number⟩
  have no_Number_kind : NoAttr K c_Number "kind" := h_no_Number_kind
  have no_Number_sign : NoAttr K c_Number "sign" := h_no_Number_sign
  have no_Number_figures : NoAttr K c_Number "figures" := h_no_Number_figures
  have no_Number_power : NoAttr K c_Number "power" := h_no_Number_power
  have m_Ratio : mg "Ratio" = some (.ref c_Ratio) := PySem.W.mg_of X G h_n_Ratio
  have i_Ratio : ClsI K c_Ratio := ⟨⟨h_pg_Ratio, h_hd_Ratio, h_po_Ratio, h_sa_Ratio⟩, h_ha_Ratio, h_hn_Ratio, h_htk_Ratio, h_hm_Ratio⟩
  have mk_Ratio : Mk K c_Ratio a_Ratio___init__ := ⟨h_mk_Ratio, h_in_Ratio, h_if_Ratio, h_kc_Ratio⟩
  have no_Ratio_top : NoAttr K c_Ratio "top" := h_no_Ratio_top
  have no_Ratio_bottom : NoAttr K c_Ratio "bottom" := h_no_Ratio_bottom
  have no_Ratio_scale : NoAttr K c_Ratio "scale" := h_no_Ratio_scale
  have m_Way : mg "Way" = some (.ref c_Way) := PySem.W.mg_of X G h_n_Way
  have i_Way : ClsI K c_Way := ⟨⟨h_pg_Way, h_hd_Way, h_po_Way, h_sa_Way⟩, h_ha_Way, h_hn_Way, h_htk_Way, h_hm_Way⟩
  have m_Down : mg "Down" = some (.ref c_Down) := PySem.W.mg_of X G h_n_Down
  have i_Down : ClsI K c_Down := ⟨⟨h_pg_Down, h_hd_Down, h_po_Down, h_sa_Down⟩, h_ha_Down, h_hn_Down, h_htk_Down, h_hm_Down⟩
  have m_Up : mg "Up" = some (.ref c_Up) := PySem.W.mg_of X G h_n_Up
  have i_Up : ClsI K c_Up := ⟨⟨h_pg_Up, h_hd_Up, h_po_Up, h_sa_Up⟩, h_ha_Up, h_hn_Up, h_htk_Up, h_hm_Up⟩
  have m_Floor : mg "Floor" = some (.ref c_Floor) := PySem.W.mg_of X G h_n_Floor
  have i_Floor : ClsI K c_Floor := ⟨⟨h_pg_Floor, h_hd_Floor, h_po_Floor, h_sa_Floor⟩, h_ha_Floor, h_hn_Floor, h_htk_Floor, h_hm_Floor⟩
  have m_Ceiling : mg "Ceiling" = some (.ref c_Ceiling) := PySem.W.mg_of X G h_n_Ceiling
  have i_Ceiling : ClsI K c_Ceiling := ⟨⟨h_pg_Ceiling, h_hd_Ceiling, h_po_Ceiling, h_sa_Ceiling⟩, h_ha_Ceiling, h_hn_Ceiling, h_htk_Ceiling, h_hm_Ceiling⟩
  have m_HalfUp : mg "HalfUp" = some (.ref c_HalfUp) := PySem.W.mg_of X G h_n_HalfUp
  have i_HalfUp : ClsI K c_HalfUp := ⟨⟨h_pg_HalfUp, h_hd_HalfUp, h_po_HalfUp, h_sa_HalfUp⟩, h_ha_HalfUp, h_hn_HalfUp, h_htk_HalfUp, h_hm_HalfUp⟩
  have m_HalfDown : mg "HalfDown" = some (.ref c_HalfDown) := PySem.W.mg_of X G h_n_HalfDown
  have i_HalfDown : ClsI K c_HalfDown := ⟨⟨h_pg_HalfDown, h_hd_HalfDown, h_po_HalfDown, h_sa_HalfDown⟩, h_ha_HalfDown, h_hn_HalfDown, h_htk_HalfDown, h_hm_HalfDown⟩
  have m_HalfEven : mg "HalfEven" = some (.ref c_HalfEven) := PySem.W.mg_of X G h_n_HalfEven
  have i_HalfEven : ClsI K c_HalfEven := ⟨⟨h_pg_HalfEven, h_hd_HalfEven, h_po_HalfEven, h_sa_HalfEven⟩, h_ha_HalfEven, h_hn_HalfEven, h_htk_HalfEven, h_hm_HalfEven⟩
  have m_FiveUp : mg "FiveUp" = some (.ref c_FiveUp) := PySem.W.mg_of X G h_n_FiveUp
  have i_FiveUp : ClsI K c_FiveUp := ⟨⟨h_pg_FiveUp, h_hd_FiveUp, h_po_FiveUp, h_sa_FiveUp⟩, h_ha_FiveUp, h_hn_FiveUp, h_htk_FiveUp, h_hm_FiveUp⟩
  have m_Context : mg "Context" = some (.ref c_Context) := PySem.W.mg_of X G h_n_Context
  have i_Context : ClsI K c_Context := ⟨⟨h_pg_Context, h_hd_Context, h_po_Context, h_sa_Context⟩, h_ha_Context, h_hn_Context, h_htk_Context, h_hm_Context⟩
  have mk_Context : Mk K c_Context a_Context___init__ := ⟨h_mk_Context, h_in_Context, h_if_Context, h_kc_Context⟩
  have no_Context_manner : NoAttr K c_Context "manner" := h_no_Context_manner
  have no_Context_room : NoAttr K c_Context "room" := h_no_Context_room
  have no_Context_least : NoAttr K c_Context "least" := h_no_Context_least
  have no_Context_most : NoAttr K c_Context "most" := h_no_Context_most
  have no_Context_standing : NoAttr K c_Context "standing" := h_no_Context_standing
  have no_Context_caught : NoAttr K c_Context "caught" := h_no_Context_caught
  have n_all : mg "all" = none := PySem.W.mg_none_of X G h_z_all
  have n_bool : mg "bool" = none := PySem.W.mg_none_of X G h_z_bool
  have n_dict : mg "dict" = none := PySem.W.mg_none_of X G h_z_dict
  have n_divmod : mg "divmod" = none := PySem.W.mg_none_of X G h_z_divmod
  have n_int : mg "int" = none := PySem.W.mg_none_of X G h_z_int
  have n_isinstance : mg "isinstance" = none := PySem.W.mg_none_of X G h_z_isinstance
  have n_len : mg "len" = none := PySem.W.mg_none_of X G h_z_len
  have n_list : mg "list" = none := PySem.W.mg_none_of X G h_z_list
  have n_max : mg "max" = none := PySem.W.mg_none_of X G h_z_max
  have n_min : mg "min" = none := PySem.W.mg_none_of X G h_z_min
  have n_range : mg "range" = none := PySem.W.mg_none_of X G h_z_range
  have n_str : mg "str" = none := PySem.W.mg_none_of X G h_z_str
  have b_Context_4 : ∃ ds, Vals [] ds ∧ Binds K d_Context___init__ ["self", "room", "way", "least", "most"] ds := (F_Context___init__).binds1 5 4 (List.cons_ne_nil _ _) rfl fun _ _ _ _ _ _ _ us its hu hi => match us, its, hu, hi with | [_, _, _, _, _], [_, _, _, _], _, _ => ⟨_, rfl, rfl⟩
  have b_Number_4 : ∃ ds, Vals [] ds ∧ Binds K d_Number___init__ ["self", "kind", "sign", "figures", "power"] ds := ⟨[], .nil, (F_Number___init__).bindsN fun _ _ _ _ _ _ us hl => match us, hl with | [_, _, _, _, _], _ => rfl⟩
  have b_Ratio_3 : ∃ ds, Vals [] ds ∧ Binds K d_Ratio___init__ ["self", "top", "bottom", "power"] ds := (F_Ratio___init__).binds1 4 1 (List.cons_ne_nil _ _) rfl fun _ _ _ _ _ _ _ us its hu hi => match us, its, hu, hi with | [_, _, _, _], [_], _, _ => ⟨_, rfl, rfl⟩
  have x_BadContext : ExcX K c_BadContext := ⟨h_xx_BadContext, h_xk_BadContext, h_xb_BadContext, h_xt_BadContext, h_xi_BadContext⟩
  have x_BadNumber : ExcX K c_BadNumber := ⟨h_xx_BadNumber, h_xk_BadNumber, h_xb_BadNumber, h_xt_BadNumber, h_xi_BadNumber⟩
  have ec_Trapped : ExcC K c_Trapped := ⟨h_echg_Trapped, h_echk_Trapped, h_echs_Trapped, h_echd_Trapped, h_echa_Trapped, h_echn_Trapped, h_echt_Trapped, h_echm_Trapped⟩
  have exm_Trapped_Trapped : PySem.W.exmOne K (.ref c_Trapped) (.ref c_Trapped) = some true := h_exm_Trapped_Trapped
  have k0_Ceiling : Mk0 K c_Ceiling := ⟨h_mk0_Ceiling, h_in0_Ceiling, h_kc0_Ceiling, h_hm_Ceiling⟩
  have k0_Down : Mk0 K c_Down := ⟨h_mk0_Down, h_in0_Down, h_kc0_Down, h_hm_Down⟩
  have k0_FiveUp : Mk0 K c_FiveUp := ⟨h_mk0_FiveUp, h_in0_FiveUp, h_kc0_FiveUp, h_hm_FiveUp⟩
  have k0_Floor : Mk0 K c_Floor := ⟨h_mk0_Floor, h_in0_Floor, h_kc0_Floor, h_hm_Floor⟩
  have k0_HalfDown : Mk0 K c_HalfDown := ⟨h_mk0_HalfDown, h_in0_HalfDown, h_kc0_HalfDown, h_hm_HalfDown⟩
  have k0_HalfEven : Mk0 K c_HalfEven := ⟨h_mk0_HalfEven, h_in0_HalfEven, h_kc0_HalfEven, h_hm_HalfEven⟩
  have k0_HalfUp : Mk0 K c_HalfUp := ⟨h_mk0_HalfUp, h_in0_HalfUp, h_kc0_HalfUp, h_hm_HalfUp⟩
  have k0_Up : Mk0 K c_Up := ⟨h_mk0_Up, h_in0_Up, h_kc0_Up, h_hm_Up⟩
  have M_Ceiling_name : Meth K c_Ceiling "name" a_Ceiling_name := ⟨h_M_Ceiling_name, h_Mi_Ceiling_name, FD_Ceiling_name.kp⟩
  have M_Context_flags : Meth K c_Context "flags" a_Context_flags := ⟨h_M_Context_flags, h_Mi_Context_flags, FD_Context_flags.kp⟩
  have M_Context_lowest : Meth K c_Context "lowest" a_Context_lowest := ⟨h_M_Context_lowest, h_Mi_Context_lowest, FD_Context_lowest.kp⟩
  have M_Context_raised : Meth K c_Context "raised" a_Context_raised := ⟨h_M_Context_raised, h_Mi_Context_raised, FD_Context_raised.kp⟩
  have M_Context_trap : Meth K c_Context "trap" a_Context_trap := ⟨h_M_Context_trap, h_Mi_Context_trap, FD_Context_trap.kp⟩
  have M_Context_traps : Meth K c_Context "traps" a_Context_traps := ⟨h_M_Context_traps, h_Mi_Context_traps, FD_Context_traps.kp⟩
  have M_Down_name : Meth K c_Down "name" a_Way_name := ⟨h_M_Down_name, h_Mi_Down_name, FD_Way_name.kp⟩
  have M_FiveUp_name : Meth K c_FiveUp "name" a_FiveUp_name := ⟨h_M_FiveUp_name, h_Mi_FiveUp_name, FD_FiveUp_name.kp⟩
  have M_Floor_name : Meth K c_Floor "name" a_Floor_name := ⟨h_M_Floor_name, h_Mi_Floor_name, FD_Floor_name.kp⟩
  have M_HalfDown_name : Meth K c_HalfDown "name" a_HalfDown_name := ⟨h_M_HalfDown_name, h_Mi_HalfDown_name, FD_HalfDown_name.kp⟩
  have M_HalfEven_name : Meth K c_HalfEven "name" a_HalfEven_name := ⟨h_M_HalfEven_name, h_Mi_HalfEven_name, FD_HalfEven_name.kp⟩
  have M_HalfUp_name : Meth K c_HalfUp "name" a_HalfUp_name := ⟨h_M_HalfUp_name, h_Mi_HalfUp_name, FD_HalfUp_name.kp⟩
  have M_Ratio_at : Meth K c_Ratio "at" a_Ratio_at := ⟨h_M_Ratio_at, h_Mi_Ratio_at, FD_Ratio_at.kp⟩
  have M_Up_name : Meth K c_Up "name" a_Up_name := ⟨h_M_Up_name, h_Mi_Up_name, FD_Up_name.kp⟩
  have trap : PySem.TrapX.TrapTxt K mg c_Trapped a_Trapped___init__ c_ReckonError := trap_of FD_Trapped___init__ m_Trapped m_ReckonError h_tr_xo h_tr_sa h_tr_ga h_tr_gg h_tr_nn h_tr_ic h_tr_tc h_tr_kc h_tr_ex h_tr_ty h_tr_hd h_tr_gb h_tr_rb h_tr_ib (findCls_val h_tr_fb) rfl
  have isi_Number_Number : PySem.W.kitOne K (.ref c_Number) (.ref c_Number) = some true := kit_own h_is_Number_Number h_ic_Number h_it_Number (.inl rfl)
  have g_MOST_LEAD : mg "MOST_LEAD" = some (.int 60 t_MOST_LEAD) := h_g_MOST_LEAD
  have g_MOST_POWER : mg "MOST_POWER" = some (.int 200 t_MOST_POWER) := h_g_MOST_POWER
  have g_MOST_ROOM : mg "MOST_ROOM" = some (.int 24 t_MOST_ROOM) := h_g_MOST_ROOM
  have g_SIGNALS : mg "SIGNALS" = some (.ref ta_SIGNALS) := PySem.W.mg_of X G h_g_SIGNALS
  have k_SIGNALS : ∀ G : Hp, ∃ vs, SqT K G ta_SIGNALS vs ∧ Reps K G gl_SIGNALS vs := fun G => ⟨[V.str "void", V.str "split", V.str "burst", V.str "sunk", V.str "faint", V.str "off", V.str "cut"], h_gl_SIGNALS G, Reps.cons (x := .str "void") rfl (Reps.cons (x := .str "split") rfl (Reps.cons (x := .str "burst") rfl (Reps.cons (x := .str "sunk") rfl (Reps.cons (x := .str "faint") rfl (Reps.cons (x := .str "off") rfl (Reps.cons (x := .str "cut") rfl (Reps.nil)))))))⟩
  have g_WAYS : mg "WAYS" = some (.ref ta_WAYS) := PySem.W.mg_of X G h_g_WAYS
  have k_WAYS : ∀ G : Hp, ∃ vs, SqT K G ta_WAYS vs ∧ Reps K G gl_WAYS vs := fun G => ⟨[V.str "down", V.str "up", V.str "floor", V.str "ceiling", V.str "half up", V.str "half down", V.str "half even", V.str "five up"], h_gl_WAYS G, Reps.cons (x := .str "down") rfl (Reps.cons (x := .str "up") rfl (Reps.cons (x := .str "floor") rfl (Reps.cons (x := .str "ceiling") rfl (Reps.cons (x := .str "half up") rfl (Reps.cons (x := .str "half down") rfl (Reps.cons (x := .str "half even") rfl (Reps.cons (x := .str "five up") rfl (Reps.nil))))))))⟩
  let T : Tx K mg := { t_is_whole := ⟨a_is_whole, d_is_whole, m_is_whole, F_is_whole, b_is_whole⟩, t_Number___init__ := ⟨a_Number___init__, d_Number___init__, F_Number___init__⟩, t_plain := ⟨a_plain, d_plain, m_plain, F_plain, b_plain⟩, t_end := ⟨a_end, d_end, m_end, F_end, b_end⟩, t_nothing := ⟨a_nothing, d_nothing, m_nothing, F_nothing, b_nothing⟩, t_need_number := ⟨a_need_number, d_need_number, m_need_number, F_need_number, b_need_number⟩, t_told := ⟨a_told, d_told, m_told, F_told, b_told⟩, t_ten_to := ⟨a_ten_to, d_ten_to, m_ten_to, F_ten_to, b_ten_to⟩, t_count_of := ⟨a_count_of, d_count_of, m_count_of, F_count_of, b_count_of⟩, t_lead_of := ⟨a_lead_of, d_lead_of, m_lead_of, F_lead_of, b_lead_of⟩, t_part_of := ⟨a_part_of, d_part_of, m_part_of, F_part_of, b_part_of⟩, t_Ratio___init__ := ⟨a_Ratio___init__, d_Ratio___init__, F_Ratio___init__⟩, t_Ratio_at := ⟨a_Ratio_at, d_Ratio_at, F_Ratio_at, b_Ratio_at⟩, t_Way_name := ⟨a_Way_name, d_Way_name, F_Way_name, b_Way_name⟩, t_Up_name := ⟨a_Up_name, d_Up_name, F_Up_name, b_Up_name⟩, t_Floor_name := ⟨a_Floor_name, d_Floor_name, F_Floor_name, b_Floor_name⟩, t_Ceiling_name := ⟨a_Ceiling_name, d_Ceiling_name, F_Ceiling_name, b_Ceiling_name⟩, t_HalfUp_name := ⟨a_HalfUp_name, d_HalfUp_name, F_HalfUp_name, b_HalfUp_name⟩, t_HalfDown_name := ⟨a_HalfDown_name, d_HalfDown_name, F_HalfDown_name, b_HalfDown_name⟩, t_HalfEven_name := ⟨a_HalfEven_name, d_HalfEven_name, F_HalfEven_name, b_HalfEven_name⟩, t_FiveUp_name := ⟨a_FiveUp_name, d_FiveUp_name, F_FiveUp_name, b_FiveUp_name⟩, t_half_way := ⟨a_half_way, d_half_way, m_half_way, F_half_way, b_half_way⟩, t_way_of := ⟨a_way_of, d_way_of, m_way_of, F_way_of, b_way_of⟩, t_need := ⟨a_need, d_need, m_need, F_need, b_need⟩, t_is_signal := ⟨a_is_signal, d_is_signal, m_is_signal, F_is_signal, b_is_signal⟩, t_Context___init__ := ⟨a_Context___init__, d_Context___init__, F_Context___init__⟩, t_Context_lowest := ⟨a_Context_lowest, d_Context_lowest, F_Context_lowest, b_Context_lowest⟩, t_Context_flags := ⟨a_Context_flags, d_Context_flags, F_Context_flags, b_Context_flags⟩, t_Context_trap := ⟨a_Context_trap, d_Context_trap, F_Context_trap, b_Context_trap⟩, t_Context_traps := ⟨a_Context_traps, d_Context_traps, F_Context_traps, b_Context_traps⟩, t_Context_raised := ⟨a_Context_raised, d_Context_raised, F_Context_raised, b_Context_raised⟩, t_greatest_of := ⟨a_greatest_of, d_greatest_of, m_greatest_of, F_greatest_of, b_greatest_of⟩, t_last_place := ⟨a_last_place, d_last_place, m_last_place, F_last_place, b_last_place⟩, t_one_farther := ⟨a_one_farther, d_one_farther, m_one_farther, F_one_farther, b_one_farther⟩, t_one_nearer := ⟨a_one_nearer, d_one_nearer, m_one_nearer, F_one_nearer, b_one_nearer⟩, t_next_to := ⟨a_next_to, d_next_to, m_next_to, F_next_to, b_next_to⟩, t_next_up := ⟨a_next_up, d_next_up, m_next_up, F_next_up, b_next_up⟩, t_next_down := ⟨a_next_down, d_next_down, m_next_down, F_next_down, b_next_down⟩, t__law_cell_at := ⟨a__law_cell_at, d__law_cell_at, m__law_cell_at, F__law_cell_at, b__law_cell_at⟩, t__law_mixed := ⟨a__law_mixed, d__law_mixed, m__law_mixed, F__law_mixed, b__law_mixed⟩, t__law_ten := ⟨a__law_ten, d__law_ten, m__law_ten, F__law_ten, b__law_ten⟩, t__law_figures := ⟨a__law_figures, d__law_figures, m__law_figures, F__law_figures, b__law_figures⟩, t__law_number := ⟨a__law_number, d__law_number, m__law_number, F__law_number, b__law_number⟩, t__law_made := ⟨a__law_made, d__law_made, m__law_made, F__law_made, b__law_made⟩, t__law_own := ⟨a__law_own, d__law_own, m__law_own, F__law_own, b__law_own⟩, t__law_context := ⟨a__law_context, d__law_context, m__law_context, F__law_context, b__law_context⟩, t__law_gone := ⟨a__law_gone, d__law_gone, m__law_gone, F__law_gone, b__law_gone⟩, t__law_tried := ⟨a__law_tried, d__law_tried, m__law_tried, F__law_tried, b__law_tried⟩, t__law_stands := ⟨a__law_stands, d__law_stands, m__law_stands, F__law_stands, b__law_stands⟩, t__law_shown := ⟨a__law_shown, d__law_shown, m__law_shown, F__law_shown, b__law_shown⟩, t__law_most := ⟨a__law_most, d__law_most, m__law_most, F__law_most, b__law_most⟩, t__law_grid := ⟨a__law_grid, d__law_grid, m__law_grid, F__law_grid, b__law_grid⟩, t__law_farther := ⟨a__law_farther, d__law_farther, m__law_farther, F__law_farther, b__law_farther⟩, t__law_nearer := ⟨a__law_nearer, d__law_nearer, m__law_nearer, F__law_nearer, b__law_nearer⟩, t__law_due := ⟨a__law_due, d__law_due, m__law_due, F__law_due, b__law_due⟩, t__law_border := ⟨a__law_border, d__law_border, m__law_border, F__law_border, b__law_border⟩, t_law := ⟨a_law, d_law, m_law, F_law, b_law⟩, c_ReckonError := c_ReckonError, c_BadNumber := c_BadNumber, c_BadContext := c_BadContext, c_Trapped := c_Trapped, c_Number := c_Number, c_Ratio := c_Ratio, c_Way := c_Way, c_Down := c_Down, c_Up := c_Up, c_Floor := c_Floor, c_Ceiling := c_Ceiling, c_HalfUp := c_HalfUp, c_HalfDown := c_HalfDown, c_HalfEven := c_HalfEven, c_FiveUp := c_FiveUp, c_Context := c_Context, lc_law := lc_law, lp_law := lp_law, a_Trapped___init__ := a_Trapped___init__, t_MOST_LEAD := t_MOST_LEAD, t_MOST_POWER := t_MOST_POWER, t_MOST_ROOM := t_MOST_ROOM, ta_SIGNALS := ta_SIGNALS, ta_WAYS := ta_WAYS, hc_law := hc_law, m_ReckonError := m_ReckonError, m_BadNumber := m_BadNumber, m_BadContext := m_BadContext, m_Trapped := m_Trapped, m_Number := m_Number, i_Number := i_Number, mk_Number := mk_Number, no_Number_kind := no_Number_kind, no_Number_sign := no_Number_sign, no_Number_figures := no_Number_figures, no_Number_power := no_Number_power, m_Ratio := m_Ratio, i_Ratio := i_Ratio, mk_Ratio := mk_Ratio, no_Ratio_top := no_Ratio_top, no_Ratio_bottom := no_Ratio_bottom, no_Ratio_scale := no_Ratio_scale, m_Way := m_Way, i_Way := i_Way, m_Down := m_Down, i_Down := i_Down, m_Up := m_Up, i_Up := i_Up, m_Floor := m_Floor, i_Floor := i_Floor, m_Ceiling := m_Ceiling, i_Ceiling := i_Ceiling, m_HalfUp := m_HalfUp, i_HalfUp := i_HalfUp, m_HalfDown := m_HalfDown, i_HalfDown := i_HalfDown, m_HalfEven := m_HalfEven, i_HalfEven := i_HalfEven, m_FiveUp := m_FiveUp, i_FiveUp := i_FiveUp, m_Context := m_Context, i_Context := i_Context, mk_Context := mk_Context, no_Context_manner := no_Context_manner, no_Context_room := no_Context_room, no_Context_least := no_Context_least, no_Context_most := no_Context_most, no_Context_standing := no_Context_standing, no_Context_caught := no_Context_caught, n_all := n_all, n_bool := n_bool, n_dict := n_dict, n_divmod := n_divmod, n_int := n_int, n_isinstance := n_isinstance, n_len := n_len, n_list := n_list, n_max := n_max, n_min := n_min, n_range := n_range, n_str := n_str, b_Context_4 := b_Context_4, b_Number_4 := b_Number_4, b_Ratio_3 := b_Ratio_3, x_BadContext := x_BadContext, x_BadNumber := x_BadNumber, ec_Trapped := ec_Trapped, exm_Trapped_Trapped := exm_Trapped_Trapped, k0_Ceiling := k0_Ceiling, k0_Down := k0_Down, k0_FiveUp := k0_FiveUp, k0_Floor := k0_Floor, k0_HalfDown := k0_HalfDown, k0_HalfEven := k0_HalfEven, k0_HalfUp := k0_HalfUp, k0_Up := k0_Up, M_Ceiling_name := M_Ceiling_name, M_Context_flags := M_Context_flags, M_Context_lowest := M_Context_lowest, M_Context_raised := M_Context_raised, M_Context_trap := M_Context_trap, M_Context_traps := M_Context_traps, M_Down_name := M_Down_name, M_FiveUp_name := M_FiveUp_name, M_Floor_name := M_Floor_name, M_HalfDown_name := M_HalfDown_name, M_HalfEven_name := M_HalfEven_name, M_HalfUp_name := M_HalfUp_name, M_Ratio_at := M_Ratio_at, M_Up_name := M_Up_name, trap := trap, isi_Number_Number := isi_Number_Number, g_MOST_LEAD := g_MOST_LEAD, g_MOST_POWER := g_MOST_POWER, g_MOST_ROOM := g_MOST_ROOM, g_SIGNALS := g_SIGNALS, k_SIGNALS := k_SIGNALS, g_WAYS := g_WAYS, k_WAYS := k_WAYS }
  refine ⟨d_law, fun s v => (FunD.bindsA (ps := ["_law_script"]) FD_law fun _ _ _ _ _ _ us hl => match us, hl with | [_], _ => rfl) s [v] rfl, fun base _ _ hTB => ?_⟩
  rw [e]
  haveI : TabsIn base mg T.cs := ⟨hTB⟩
  exact ok_law (P := P) (w := w) (base := base) T
def fx0 (K : PySem.W.Frag) : List Bool := [decide (PySem.W.nsIn K mainGlobals "is_whole" = some (some (.ref (He.fAd K ("is_whole", none))))),
  decide (PySem.W.nsIn K mainGlobals "plain" = some (some (.ref (He.fAd K ("plain", none))))),
  decide (PySem.W.nsIn K mainGlobals "end" = some (some (.ref (He.fAd K ("end", none))))),
  decide (PySem.W.nsIn K mainGlobals "nothing" = some (some (.ref (He.fAd K ("nothing", none))))),
  decide (PySem.W.nsIn K mainGlobals "need_number" = some (some (.ref (He.fAd K ("need_number", none))))),
  decide (PySem.W.nsIn K mainGlobals "told" = some (some (.ref (He.fAd K ("told", none))))),
  decide (PySem.W.nsIn K mainGlobals "ten_to" = some (some (.ref (He.fAd K ("ten_to", none))))),
  decide (PySem.W.nsIn K mainGlobals "count_of" = some (some (.ref (He.fAd K ("count_of", none))))),
  decide (PySem.W.nsIn K mainGlobals "lead_of" = some (some (.ref (He.fAd K ("lead_of", none))))),
  decide (PySem.W.nsIn K mainGlobals "part_of" = some (some (.ref (He.fAd K ("part_of", none))))),
  decide (PySem.W.nsIn K mainGlobals "half_way" = some (some (.ref (He.fAd K ("half_way", none))))),
  decide (PySem.W.nsIn K mainGlobals "way_of" = some (some (.ref (He.fAd K ("way_of", none))))),
  decide (PySem.W.nsIn K mainGlobals "need" = some (some (.ref (He.fAd K ("need", none))))),
  decide (PySem.W.nsIn K mainGlobals "is_signal" = some (some (.ref (He.fAd K ("is_signal", none))))),
  decide (PySem.W.nsIn K mainGlobals "greatest_of" = some (some (.ref (He.fAd K ("greatest_of", none))))),
  decide (PySem.W.nsIn K mainGlobals "last_place" = some (some (.ref (He.fAd K ("last_place", none))))),
  decide (PySem.W.nsIn K mainGlobals "one_farther" = some (some (.ref (He.fAd K ("one_farther", none))))),
  decide (PySem.W.nsIn K mainGlobals "one_nearer" = some (some (.ref (He.fAd K ("one_nearer", none))))),
  decide (PySem.W.nsIn K mainGlobals "next_to" = some (some (.ref (He.fAd K ("next_to", none))))),
  decide (PySem.W.nsIn K mainGlobals "next_up" = some (some (.ref (He.fAd K ("next_up", none))))),
  decide (PySem.W.nsIn K mainGlobals "next_down" = some (some (.ref (He.fAd K ("next_down", none))))),
  decide (PySem.W.nsIn K mainGlobals "_law_cell_at" = some (some (.ref (He.fAd K ("_law_cell_at", none))))),
  decide (PySem.W.nsIn K mainGlobals "_law_mixed" = some (some (.ref (He.fAd K ("_law_mixed", none))))),
  decide (PySem.W.nsIn K mainGlobals "_law_ten" = some (some (.ref (He.fAd K ("_law_ten", none))))),
  decide (PySem.W.nsIn K mainGlobals "_law_figures" = some (some (.ref (He.fAd K ("_law_figures", none))))),
  decide (PySem.W.nsIn K mainGlobals "_law_number" = some (some (.ref (He.fAd K ("_law_number", none))))),
  decide (PySem.W.nsIn K mainGlobals "_law_made" = some (some (.ref (He.fAd K ("_law_made", none))))),
  decide (PySem.W.nsIn K mainGlobals "_law_own" = some (some (.ref (He.fAd K ("_law_own", none))))),
  decide (PySem.W.nsIn K mainGlobals "_law_context" = some (some (.ref (He.fAd K ("_law_context", none))))),
  decide (PySem.W.nsIn K mainGlobals "_law_gone" = some (some (.ref (He.fAd K ("_law_gone", none))))),
  decide (PySem.W.nsIn K mainGlobals "_law_tried" = some (some (.ref (He.fAd K ("_law_tried", none))))),
  decide (PySem.W.nsIn K mainGlobals "_law_stands" = some (some (.ref (He.fAd K ("_law_stands", none))))),
  decide (PySem.W.nsIn K mainGlobals "_law_shown" = some (some (.ref (He.fAd K ("_law_shown", none))))),
  decide (PySem.W.nsIn K mainGlobals "_law_most" = some (some (.ref (He.fAd K ("_law_most", none))))),
  decide (PySem.W.nsIn K mainGlobals "_law_grid" = some (some (.ref (He.fAd K ("_law_grid", none))))),
  decide (PySem.W.nsIn K mainGlobals "_law_farther" = some (some (.ref (He.fAd K ("_law_farther", none))))),
  decide (PySem.W.nsIn K mainGlobals "_law_nearer" = some (some (.ref (He.fAd K ("_law_nearer", none))))),
  decide (PySem.W.nsIn K mainGlobals "_law_due" = some (some (.ref (He.fAd K ("_law_due", none))))),
  decide (PySem.W.nsIn K mainGlobals "_law_border" = some (some (.ref (He.fAd K ("_law_border", none))))),
  decide (PySem.W.nsIn K mainGlobals "law" = some (some (.ref (He.fAd K ("law", none))))),
  decide (PySem.W.nsIn K mainGlobals "ReckonError" = some (some (.ref (He.ga K "ReckonError")))),
  decide (PySem.W.nsIn K mainGlobals "BadNumber" = some (some (.ref (He.ga K "BadNumber")))),
  decide (PySem.W.nsIn K mainGlobals "BadContext" = some (some (.ref (He.ga K "BadContext")))),
  decide (PySem.W.nsIn K mainGlobals "Trapped" = some (some (.ref (He.ga K "Trapped")))),
  decide (PySem.W.nsIn K mainGlobals "Number" = some (some (.ref (He.ga K "Number")))),
  PySem.W.plainGet K (He.ga K "Number") Str.empty,
  PySem.W.hasDictIn K (He.ga K "Number"),
  PySem.W.plainOver K (He.ga K "Number"),
  decide (PySem.W.findIn K (.ref (He.ga K "Number")) "__setattr__" = some (some (.builtin "object.__setattr__"))),
  decide (PySem.W.findIn K (.ref (He.ga K "Number")) "__class__" = some (some (.builtin "object.__class__"))),
  decide (PySem.W.specialIn K (.builtin "object.__class__") "__get__" = some (some (.builtin "getset_descriptor.__get__"))),
  decide (PySem.W.takesIn K (.builtin "object.__class__") = some true),
  decide (PySem.W.mroIn K (He.ga K "Number") (.type "object") = some true),
  PySem.W.makesIn K (He.ga K "Number"),
  PySem.W.keepIn K (.ref (He.ga K "Number")),
  decide (PySem.W.findIn K (.ref (He.ga K "Number")) "__init__" = some (some (.ref (He.fAd K ("Number", some "__init__"))))),
  PySem.W.isFn K (.ref (He.fAd K ("Number", some "__init__"))),
  decide (PySem.W.findIn K (.ref (He.ga K "Number")) "kind" = some none),
  decide (PySem.W.findIn K (.ref (He.ga K "Number")) "sign" = some none),
  decide (PySem.W.findIn K (.ref (He.ga K "Number")) "figures" = some none),
  decide (PySem.W.findIn K (.ref (He.ga K "Number")) "power" = some none),
  decide (PySem.W.nsIn K mainGlobals "Ratio" = some (some (.ref (He.ga K "Ratio")))),
  PySem.W.plainGet K (He.ga K "Ratio") Str.empty,
  PySem.W.hasDictIn K (He.ga K "Ratio"),
  PySem.W.plainOver K (He.ga K "Ratio"),
  decide (PySem.W.findIn K (.ref (He.ga K "Ratio")) "__setattr__" = some (some (.builtin "object.__setattr__"))),
  decide (PySem.W.findIn K (.ref (He.ga K "Ratio")) "__class__" = some (some (.builtin "object.__class__"))),
  decide (PySem.W.specialIn K (.builtin "object.__class__") "__get__" = some (some (.builtin "getset_descriptor.__get__"))),
  decide (PySem.W.takesIn K (.builtin "object.__class__") = some true),
  decide (PySem.W.mroIn K (He.ga K "Ratio") (.type "object") = some true),
  PySem.W.makesIn K (He.ga K "Ratio"),
  PySem.W.keepIn K (.ref (He.ga K "Ratio")),
  decide (PySem.W.findIn K (.ref (He.ga K "Ratio")) "__init__" = some (some (.ref (He.fAd K ("Ratio", some "__init__"))))),
  PySem.W.isFn K (.ref (He.fAd K ("Ratio", some "__init__"))),
  decide (PySem.W.findIn K (.ref (He.ga K "Ratio")) "top" = some none),
  decide (PySem.W.findIn K (.ref (He.ga K "Ratio")) "bottom" = some none),
  decide (PySem.W.findIn K (.ref (He.ga K "Ratio")) "scale" = some none),
  decide (PySem.W.nsIn K mainGlobals "Way" = some (some (.ref (He.ga K "Way")))),
  PySem.W.plainGet K (He.ga K "Way") Str.empty,
  PySem.W.hasDictIn K (He.ga K "Way"),
  PySem.W.plainOver K (He.ga K "Way"),
  decide (PySem.W.findIn K (.ref (He.ga K "Way")) "__setattr__" = some (some (.builtin "object.__setattr__"))),
  decide (PySem.W.findIn K (.ref (He.ga K "Way")) "__class__" = some (some (.builtin "object.__class__"))),
  decide (PySem.W.specialIn K (.builtin "object.__class__") "__get__" = some (some (.builtin "getset_descriptor.__get__"))),
  decide (PySem.W.takesIn K (.builtin "object.__class__") = some true),
  decide (PySem.W.mroIn K (He.ga K "Way") (.type "object") = some true),
  decide (PySem.W.nsIn K mainGlobals "Down" = some (some (.ref (He.ga K "Down")))),
  PySem.W.plainGet K (He.ga K "Down") Str.empty,
  PySem.W.hasDictIn K (He.ga K "Down"),
  PySem.W.plainOver K (He.ga K "Down"),
  decide (PySem.W.findIn K (.ref (He.ga K "Down")) "__setattr__" = some (some (.builtin "object.__setattr__"))),
  decide (PySem.W.findIn K (.ref (He.ga K "Down")) "__class__" = some (some (.builtin "object.__class__"))),
  decide (PySem.W.specialIn K (.builtin "object.__class__") "__get__" = some (some (.builtin "getset_descriptor.__get__"))),
  decide (PySem.W.takesIn K (.builtin "object.__class__") = some true),
  decide (PySem.W.mroIn K (He.ga K "Down") (.type "object") = some true),
  decide (PySem.W.nsIn K mainGlobals "Up" = some (some (.ref (He.ga K "Up")))),
  PySem.W.plainGet K (He.ga K "Up") Str.empty,
  PySem.W.hasDictIn K (He.ga K "Up"),
  PySem.W.plainOver K (He.ga K "Up"),
  decide (PySem.W.findIn K (.ref (He.ga K "Up")) "__setattr__" = some (some (.builtin "object.__setattr__"))),
  decide (PySem.W.findIn K (.ref (He.ga K "Up")) "__class__" = some (some (.builtin "object.__class__"))),
  decide (PySem.W.specialIn K (.builtin "object.__class__") "__get__" = some (some (.builtin "getset_descriptor.__get__"))),
  decide (PySem.W.takesIn K (.builtin "object.__class__") = some true),
  decide (PySem.W.mroIn K (He.ga K "Up") (.type "object") = some true),
  decide (PySem.W.nsIn K mainGlobals "Floor" = some (some (.ref (He.ga K "Floor")))),
  PySem.W.plainGet K (He.ga K "Floor") Str.empty,
  PySem.W.hasDictIn K (He.ga K "Floor"),
  PySem.W.plainOver K (He.ga K "Floor"),
  decide (PySem.W.findIn K (.ref (He.ga K "Floor")) "__setattr__" = some (some (.builtin "object.__setattr__"))),
  decide (PySem.W.findIn K (.ref (He.ga K "Floor")) "__class__" = some (some (.builtin "object.__class__"))),
  decide (PySem.W.specialIn K (.builtin "object.__class__") "__get__" = some (some (.builtin "getset_descriptor.__get__"))),
  decide (PySem.W.takesIn K (.builtin "object.__class__") = some true),
  decide (PySem.W.mroIn K (He.ga K "Floor") (.type "object") = some true),
  decide (PySem.W.nsIn K mainGlobals "Ceiling" = some (some (.ref (He.ga K "Ceiling")))),
  PySem.W.plainGet K (He.ga K "Ceiling") Str.empty,
  PySem.W.hasDictIn K (He.ga K "Ceiling"),
  PySem.W.plainOver K (He.ga K "Ceiling"),
  decide (PySem.W.findIn K (.ref (He.ga K "Ceiling")) "__setattr__" = some (some (.builtin "object.__setattr__"))),
  decide (PySem.W.findIn K (.ref (He.ga K "Ceiling")) "__class__" = some (some (.builtin "object.__class__"))),
  decide (PySem.W.specialIn K (.builtin "object.__class__") "__get__" = some (some (.builtin "getset_descriptor.__get__"))),
  decide (PySem.W.takesIn K (.builtin "object.__class__") = some true),
  decide (PySem.W.mroIn K (He.ga K "Ceiling") (.type "object") = some true),
  decide (PySem.W.nsIn K mainGlobals "HalfUp" = some (some (.ref (He.ga K "HalfUp")))),
  PySem.W.plainGet K (He.ga K "HalfUp") Str.empty,
  PySem.W.hasDictIn K (He.ga K "HalfUp"),
  PySem.W.plainOver K (He.ga K "HalfUp"),
  decide (PySem.W.findIn K (.ref (He.ga K "HalfUp")) "__setattr__" = some (some (.builtin "object.__setattr__"))),
  decide (PySem.W.findIn K (.ref (He.ga K "HalfUp")) "__class__" = some (some (.builtin "object.__class__"))),
  decide (PySem.W.specialIn K (.builtin "object.__class__") "__get__" = some (some (.builtin "getset_descriptor.__get__"))),
  decide (PySem.W.takesIn K (.builtin "object.__class__") = some true),
  decide (PySem.W.mroIn K (He.ga K "HalfUp") (.type "object") = some true),
  decide (PySem.W.nsIn K mainGlobals "HalfDown" = some (some (.ref (He.ga K "HalfDown")))),
  PySem.W.plainGet K (He.ga K "HalfDown") Str.empty,
  PySem.W.hasDictIn K (He.ga K "HalfDown"),
  PySem.W.plainOver K (He.ga K "HalfDown"),
  decide (PySem.W.findIn K (.ref (He.ga K "HalfDown")) "__setattr__" = some (some (.builtin "object.__setattr__"))),
  decide (PySem.W.findIn K (.ref (He.ga K "HalfDown")) "__class__" = some (some (.builtin "object.__class__"))),
  decide (PySem.W.specialIn K (.builtin "object.__class__") "__get__" = some (some (.builtin "getset_descriptor.__get__"))),
  decide (PySem.W.takesIn K (.builtin "object.__class__") = some true),
  decide (PySem.W.mroIn K (He.ga K "HalfDown") (.type "object") = some true),
  decide (PySem.W.nsIn K mainGlobals "HalfEven" = some (some (.ref (He.ga K "HalfEven")))),
  PySem.W.plainGet K (He.ga K "HalfEven") Str.empty,
  PySem.W.hasDictIn K (He.ga K "HalfEven"),
  PySem.W.plainOver K (He.ga K "HalfEven"),
  decide (PySem.W.findIn K (.ref (He.ga K "HalfEven")) "__setattr__" = some (some (.builtin "object.__setattr__"))),
  decide (PySem.W.findIn K (.ref (He.ga K "HalfEven")) "__class__" = some (some (.builtin "object.__class__"))),
  decide (PySem.W.specialIn K (.builtin "object.__class__") "__get__" = some (some (.builtin "getset_descriptor.__get__"))),
  decide (PySem.W.takesIn K (.builtin "object.__class__") = some true),
  decide (PySem.W.mroIn K (He.ga K "HalfEven") (.type "object") = some true),
  decide (PySem.W.nsIn K mainGlobals "FiveUp" = some (some (.ref (He.ga K "FiveUp")))),
  PySem.W.plainGet K (He.ga K "FiveUp") Str.empty,
  PySem.W.hasDictIn K (He.ga K "FiveUp"),
  PySem.W.plainOver K (He.ga K "FiveUp"),
  decide (PySem.W.findIn K (.ref (He.ga K "FiveUp")) "__setattr__" = some (some (.builtin "object.__setattr__"))),
  decide (PySem.W.findIn K (.ref (He.ga K "FiveUp")) "__class__" = some (some (.builtin "object.__class__"))),
  decide (PySem.W.specialIn K (.builtin "object.__class__") "__get__" = some (some (.builtin "getset_descriptor.__get__"))),
  decide (PySem.W.takesIn K (.builtin "object.__class__") = some true),
  decide (PySem.W.mroIn K (He.ga K "FiveUp") (.type "object") = some true),
  decide (PySem.W.nsIn K mainGlobals "Context" = some (some (.ref (He.ga K "Context")))),
  PySem.W.plainGet K (He.ga K "Context") Str.empty,
  PySem.W.hasDictIn K (He.ga K "Context"),
  PySem.W.plainOver K (He.ga K "Context"),
  decide (PySem.W.findIn K (.ref (He.ga K "Context")) "__setattr__" = some (some (.builtin "object.__setattr__"))),
  decide (PySem.W.findIn K (.ref (He.ga K "Context")) "__class__" = some (some (.builtin "object.__class__"))),
  decide (PySem.W.specialIn K (.builtin "object.__class__") "__get__" = some (some (.builtin "getset_descriptor.__get__"))),
  decide (PySem.W.takesIn K (.builtin "object.__class__") = some true),
  decide (PySem.W.mroIn K (He.ga K "Context") (.type "object") = some true),
  PySem.W.makesIn K (He.ga K "Context"),
  PySem.W.keepIn K (.ref (He.ga K "Context")),
  decide (PySem.W.findIn K (.ref (He.ga K "Context")) "__init__" = some (some (.ref (He.fAd K ("Context", some "__init__"))))),
  PySem.W.isFn K (.ref (He.fAd K ("Context", some "__init__"))),
  decide (PySem.W.findIn K (.ref (He.ga K "Context")) "manner" = some none),
  decide (PySem.W.findIn K (.ref (He.ga K "Context")) "room" = some none),
  decide (PySem.W.findIn K (.ref (He.ga K "Context")) "least" = some none),
  decide (PySem.W.findIn K (.ref (He.ga K "Context")) "most" = some none),
  decide (PySem.W.findIn K (.ref (He.ga K "Context")) "standing" = some none),
  decide (PySem.W.findIn K (.ref (He.ga K "Context")) "caught" = some none),
  decide (PySem.W.nsIn K mainGlobals "all" = some none),
  decide (PySem.W.nsIn K mainGlobals "bool" = some none),
  decide (PySem.W.nsIn K mainGlobals "dict" = some none),
  decide (PySem.W.nsIn K mainGlobals "divmod" = some none),
  decide (PySem.W.nsIn K mainGlobals "int" = some none),
  decide (PySem.W.nsIn K mainGlobals "isinstance" = some none),
  decide (PySem.W.nsIn K mainGlobals "len" = some none),
  decide (PySem.W.nsIn K mainGlobals "list" = some none),
  decide (PySem.W.nsIn K mainGlobals "max" = some none),
  decide (PySem.W.nsIn K mainGlobals "min" = some none),
  decide (PySem.W.nsIn K mainGlobals "range" = some none),
  decide (PySem.W.nsIn K mainGlobals "str" = some none),
  PySem.W.excIn K (He.ga K "BadContext") [.type "ValueError", .type "Exception", .type "BaseException", .type "object"] "ValueError.__new__",
  PySem.W.keepIn K (.ref (He.ga K "BadContext")),
  decide (PySem.W.subIn K (.ref (He.ga K "BadContext")) (.type "BaseException") = some true),
  decide (PySem.W.typeIn K (.ref (He.ga K "BadContext")) = some (.type "type")),
  PySem.W.isClsIn K (He.ga K "BadContext"),
  PySem.W.excIn K (He.ga K "BadNumber") [.type "ValueError", .type "Exception", .type "BaseException", .type "object"] "ValueError.__new__",
  PySem.W.keepIn K (.ref (He.ga K "BadNumber")),
  decide (PySem.W.subIn K (.ref (He.ga K "BadNumber")) (.type "BaseException") = some true),
  decide (PySem.W.typeIn K (.ref (He.ga K "BadNumber")) = some (.type "type")),
  PySem.W.isClsIn K (He.ga K "BadNumber"),
  decide (PySem.W.findIn K (.ref (He.ga K "Trapped")) "__getattribute__" = some (some (.builtin "BaseException.__getattribute__"))),
  decide (PySem.W.findIn K (.ref (He.ga K "Trapped")) "__getattr__" = some none),
  decide (PySem.W.subIn K (.ref (He.ga K "Trapped")) (.type "BaseException") = some true),
  PySem.W.hasDictIn K (He.ga K "Trapped"),
  decide (PySem.W.findIn K (.ref (He.ga K "Trapped")) "__class__" = some (some (.builtin "object.__class__"))),
  decide (PySem.W.specialIn K (.builtin "object.__class__") "__get__" = some (some (.builtin "getset_descriptor.__get__"))),
  decide (PySem.W.takesIn K (.builtin "object.__class__") = some true),
  decide (PySem.W.mroIn K (He.ga K "Trapped") (.type "object") = some true),
  decide (PySem.W.exmOne K (.ref (He.ga K "Trapped")) (.ref (He.ga K "Trapped")) = some true),
  PySem.W.makesIn K (He.ga K "Ceiling"),
  decide (PySem.W.findIn K (.ref (He.ga K "Ceiling")) "__init__" = some (some (.builtin "object.__init__"))),
  PySem.W.keepIn K (.ref (He.ga K "Ceiling")),
  PySem.W.makesIn K (He.ga K "Down"),
  decide (PySem.W.findIn K (.ref (He.ga K "Down")) "__init__" = some (some (.builtin "object.__init__"))),
  PySem.W.keepIn K (.ref (He.ga K "Down")),
  PySem.W.makesIn K (He.ga K "FiveUp"),
  decide (PySem.W.findIn K (.ref (He.ga K "FiveUp")) "__init__" = some (some (.builtin "object.__init__"))),
  PySem.W.keepIn K (.ref (He.ga K "FiveUp")),
  PySem.W.makesIn K (He.ga K "Floor"),
  decide (PySem.W.findIn K (.ref (He.ga K "Floor")) "__init__" = some (some (.builtin "object.__init__"))),
  PySem.W.keepIn K (.ref (He.ga K "Floor")),
  PySem.W.makesIn K (He.ga K "HalfDown"),
  decide (PySem.W.findIn K (.ref (He.ga K "HalfDown")) "__init__" = some (some (.builtin "object.__init__"))),
  PySem.W.keepIn K (.ref (He.ga K "HalfDown")),
  PySem.W.makesIn K (He.ga K "HalfEven"),
  decide (PySem.W.findIn K (.ref (He.ga K "HalfEven")) "__init__" = some (some (.builtin "object.__init__"))),
  PySem.W.keepIn K (.ref (He.ga K "HalfEven")),
  PySem.W.makesIn K (He.ga K "HalfUp"),
  decide (PySem.W.findIn K (.ref (He.ga K "HalfUp")) "__init__" = some (some (.builtin "object.__init__"))),
  PySem.W.keepIn K (.ref (He.ga K "HalfUp")),
  PySem.W.makesIn K (He.ga K "Up"),
  decide (PySem.W.findIn K (.ref (He.ga K "Up")) "__init__" = some (some (.builtin "object.__init__"))),
  PySem.W.keepIn K (.ref (He.ga K "Up")),
  decide (PySem.W.findIn K (.ref (He.ga K "Ceiling")) "name" = some (some (.ref (He.fAd K ("Ceiling", some "name"))))),
  PySem.W.isFn K (.ref (He.fAd K ("Ceiling", some "name"))),
  decide (PySem.W.findIn K (.ref (He.ga K "Context")) "flags" = some (some (.ref (He.fAd K ("Context", some "flags"))))),
  PySem.W.isFn K (.ref (He.fAd K ("Context", some "flags"))),
  decide (PySem.W.findIn K (.ref (He.ga K "Context")) "lowest" = some (some (.ref (He.fAd K ("Context", some "lowest"))))),
  PySem.W.isFn K (.ref (He.fAd K ("Context", some "lowest"))),
  decide (PySem.W.findIn K (.ref (He.ga K "Context")) "raised" = some (some (.ref (He.fAd K ("Context", some "raised"))))),
  PySem.W.isFn K (.ref (He.fAd K ("Context", some "raised"))),
  decide (PySem.W.findIn K (.ref (He.ga K "Context")) "trap" = some (some (.ref (He.fAd K ("Context", some "trap"))))),
  PySem.W.isFn K (.ref (He.fAd K ("Context", some "trap"))),
  decide (PySem.W.findIn K (.ref (He.ga K "Context")) "traps" = some (some (.ref (He.fAd K ("Context", some "traps"))))),
  PySem.W.isFn K (.ref (He.fAd K ("Context", some "traps"))),
  decide (PySem.W.findIn K (.ref (He.ga K "Down")) "name" = some (some (.ref (He.fAd K ("Way", some "name"))))),
  PySem.W.isFn K (.ref (He.fAd K ("Way", some "name"))),
  decide (PySem.W.findIn K (.ref (He.ga K "FiveUp")) "name" = some (some (.ref (He.fAd K ("FiveUp", some "name"))))),
  PySem.W.isFn K (.ref (He.fAd K ("FiveUp", some "name"))),
  decide (PySem.W.findIn K (.ref (He.ga K "Floor")) "name" = some (some (.ref (He.fAd K ("Floor", some "name"))))),
  PySem.W.isFn K (.ref (He.fAd K ("Floor", some "name"))),
  decide (PySem.W.findIn K (.ref (He.ga K "HalfDown")) "name" = some (some (.ref (He.fAd K ("HalfDown", some "name"))))),
  PySem.W.isFn K (.ref (He.fAd K ("HalfDown", some "name"))),
  decide (PySem.W.findIn K (.ref (He.ga K "HalfEven")) "name" = some (some (.ref (He.fAd K ("HalfEven", some "name"))))),
  PySem.W.isFn K (.ref (He.fAd K ("HalfEven", some "name"))),
  decide (PySem.W.findIn K (.ref (He.ga K "HalfUp")) "name" = some (some (.ref (He.fAd K ("HalfUp", some "name"))))),
  PySem.W.isFn K (.ref (He.fAd K ("HalfUp", some "name"))),
  decide (PySem.W.findIn K (.ref (He.ga K "Ratio")) "at" = some (some (.ref (He.fAd K ("Ratio", some "at"))))),
  PySem.W.isFn K (.ref (He.fAd K ("Ratio", some "at"))),
  decide (PySem.W.findIn K (.ref (He.ga K "Up")) "name" = some (some (.ref (He.fAd K ("Up", some "name"))))),
  PySem.W.isFn K (.ref (He.fAd K ("Up", some "name"))),
  PySem.TrapX.excOwnB K (He.ga K "Trapped"),
  decide (PySem.W.findIn K (.ref (He.ga K "Trapped")) "__setattr__" = some (some (.builtin "object.__setattr__"))),
  decide (PySem.W.findIn K (.ref (He.ga K "Trapped")) "__getattribute__" = some (some (.builtin "BaseException.__getattribute__"))),
  decide (PySem.W.findIn K (.ref (He.ga K "Trapped")) "__getattr__" = some none),
  decide (PySem.W.findIn K (.ref (He.ga K "Trapped")) "signal" = some none),
  decide (PySem.W.findIn K (.ref (He.ga K "Trapped")) "__init__" = some (some (.ref (He.fAd K ("Trapped", some "__init__"))))),
  decide (PySem.W.typeIn K (.ref (He.fAd K ("Trapped", some "__init__"))) = some (.type "function")),
  PySem.W.keepIn K (.ref (He.ga K "Trapped")),
  decide (PySem.W.subIn K (.ref (He.ga K "Trapped")) (.type "BaseException") = some true),
  decide (PySem.W.typeIn K (.ref (He.ga K "Trapped")) = some (.type "type")),
  PySem.W.hasDictIn K (He.ga K "Trapped"),
  decide (PySem.W.specialIn K (.ref (He.ga K "ReckonError")) "__getattribute__" = some (some (.builtin "type.__getattribute__"))),
  PySem.W.readsIn K (He.ga K "ReckonError") (.type "type"),
  decide (PySem.W.findIn K (.ref (He.ga K "ReckonError")) "__init__" = some (some (.builtin "ValueError.__init__"))),
  (match PySem.W.findCls K (.ref (He.ga K "ReckonError")) (.type "type") "__init__" with | some (.val (.builtin z)) => decide (z = "ValueError.__init__") | _ => false),
  PySem.W.isClsIn K (He.ga K "Number"),
  decide (PySem.W.typeIn K (.ref (He.ga K "Number")) = some (.type "type")),
  decide (PySem.W.subIn K (.ref (He.ga K "Number")) (.ref (He.ga K "Number")) = some true),
  (He.Fa.int "MOST_LEAD" 60).ok K,
  (He.Fa.int "MOST_POWER" 200).ok K,
  (He.Fa.int "MOST_ROOM" 24).ok K,
  decide (PySem.W.nsIn K mainGlobals "SIGNALS" = some (some (.ref (He.ga K "SIGNALS")))),
  He.tupB K "SIGNALS" [He.Dv.str "void", He.Dv.str "split", He.Dv.str "burst", He.Dv.str "sunk", He.Dv.str "faint", He.Dv.str "off", He.Dv.str "cut"],
  decide (PySem.W.nsIn K mainGlobals "WAYS" = some (some (.ref (He.ga K "WAYS")))),
  He.tupB K "WAYS" [He.Dv.str "down", He.Dv.str "up", He.Dv.str "floor", He.Dv.str "ceiling", He.Dv.str "half up", He.Dv.str "half down", He.Dv.str "half even", He.Dv.str "five up"]]
def fx (K : PySem.W.Frag) : List Bool := fx0 K
def fn : List He.DefD := [⟨("is_whole", none), "is_whole", "is_whole", defArgs s_is_whole, defBody s_is_whole, defScope s_is_whole, [], []⟩,
  ⟨("Number", some "__init__"), "__init__", "Number.__init__", defArgs s_Number___init__, defBody s_Number___init__, defScope s_Number___init__, [], []⟩,
  ⟨("plain", none), "plain", "plain", defArgs s_plain, defBody s_plain, defScope s_plain, [], []⟩,
  ⟨("end", none), "end", "end", defArgs s_end, defBody s_end, defScope s_end, [], []⟩,
  ⟨("nothing", none), "nothing", "nothing", defArgs s_nothing, defBody s_nothing, defScope s_nothing, [], []⟩,
  ⟨("need_number", none), "need_number", "need_number", defArgs s_need_number, defBody s_need_number, defScope s_need_number, [], []⟩,
  ⟨("told", none), "told", "told", defArgs s_told, defBody s_told, defScope s_told, [], []⟩,
  ⟨("ten_to", none), "ten_to", "ten_to", defArgs s_ten_to, defBody s_ten_to, defScope s_ten_to, [], []⟩,
  ⟨("count_of", none), "count_of", "count_of", defArgs s_count_of, defBody s_count_of, defScope s_count_of, [], []⟩,
  ⟨("lead_of", none), "lead_of", "lead_of", defArgs s_lead_of, defBody s_lead_of, defScope s_lead_of, [], []⟩,
  ⟨("part_of", none), "part_of", "part_of", defArgs s_part_of, defBody s_part_of, defScope s_part_of, [], []⟩,
  ⟨("Ratio", some "__init__"), "__init__", "Ratio.__init__", defArgs s_Ratio___init__, defBody s_Ratio___init__, defScope s_Ratio___init__, [.int 0], []⟩,
  ⟨("Ratio", some "at"), "at", "Ratio.at", defArgs s_Ratio_at, defBody s_Ratio_at, defScope s_Ratio_at, [], []⟩,
  ⟨("Way", some "name"), "name", "Way.name", defArgs s_Way_name, defBody s_Way_name, defScope s_Way_name, [], []⟩,
  ⟨("Up", some "name"), "name", "Up.name", defArgs s_Up_name, defBody s_Up_name, defScope s_Up_name, [], []⟩,
  ⟨("Floor", some "name"), "name", "Floor.name", defArgs s_Floor_name, defBody s_Floor_name, defScope s_Floor_name, [], []⟩,
  ⟨("Ceiling", some "name"), "name", "Ceiling.name", defArgs s_Ceiling_name, defBody s_Ceiling_name, defScope s_Ceiling_name, [], []⟩,
  ⟨("HalfUp", some "name"), "name", "HalfUp.name", defArgs s_HalfUp_name, defBody s_HalfUp_name, defScope s_HalfUp_name, [], []⟩,
  ⟨("HalfDown", some "name"), "name", "HalfDown.name", defArgs s_HalfDown_name, defBody s_HalfDown_name, defScope s_HalfDown_name, [], []⟩,
  ⟨("HalfEven", some "name"), "name", "HalfEven.name", defArgs s_HalfEven_name, defBody s_HalfEven_name, defScope s_HalfEven_name, [], []⟩,
  ⟨("FiveUp", some "name"), "name", "FiveUp.name", defArgs s_FiveUp_name, defBody s_FiveUp_name, defScope s_FiveUp_name, [], []⟩,
  ⟨("half_way", none), "half_way", "half_way", defArgs s_half_way, defBody s_half_way, defScope s_half_way, [], []⟩,
  ⟨("way_of", none), "way_of", "way_of", defArgs s_way_of, defBody s_way_of, defScope s_way_of, [], []⟩,
  ⟨("need", none), "need", "need", defArgs s_need, defBody s_need, defScope s_need, [], []⟩,
  ⟨("is_signal", none), "is_signal", "is_signal", defArgs s_is_signal, defBody s_is_signal, defScope s_is_signal, [], []⟩,
  ⟨("Context", some "__init__"), "__init__", "Context.__init__", defArgs s_Context___init__, defBody s_Context___init__, defScope s_Context___init__, [.int 9, .str "half even", .non, .int 60], []⟩,
  ⟨("Context", some "lowest"), "lowest", "Context.lowest", defArgs s_Context_lowest, defBody s_Context_lowest, defScope s_Context_lowest, [], []⟩,
  ⟨("Context", some "flags"), "flags", "Context.flags", defArgs s_Context_flags, defBody s_Context_flags, defScope s_Context_flags, [], []⟩,
  ⟨("Context", some "trap"), "trap", "Context.trap", defArgs s_Context_trap, defBody s_Context_trap, defScope s_Context_trap, [], []⟩,
  ⟨("Context", some "traps"), "traps", "Context.traps", defArgs s_Context_traps, defBody s_Context_traps, defScope s_Context_traps, [], []⟩,
  ⟨("Context", some "raised"), "raised", "Context.raised", defArgs s_Context_raised, defBody s_Context_raised, defScope s_Context_raised, [], []⟩,
  ⟨("greatest_of", none), "greatest_of", "greatest_of", defArgs s_greatest_of, defBody s_greatest_of, defScope s_greatest_of, [], []⟩,
  ⟨("last_place", none), "last_place", "last_place", defArgs s_last_place, defBody s_last_place, defScope s_last_place, [], []⟩,
  ⟨("one_farther", none), "one_farther", "one_farther", defArgs s_one_farther, defBody s_one_farther, defScope s_one_farther, [], []⟩,
  ⟨("one_nearer", none), "one_nearer", "one_nearer", defArgs s_one_nearer, defBody s_one_nearer, defScope s_one_nearer, [], []⟩,
  ⟨("next_to", none), "next_to", "next_to", defArgs s_next_to, defBody s_next_to, defScope s_next_to, [], []⟩,
  ⟨("next_up", none), "next_up", "next_up", defArgs s_next_up, defBody s_next_up, defScope s_next_up, [], []⟩,
  ⟨("next_down", none), "next_down", "next_down", defArgs s_next_down, defBody s_next_down, defScope s_next_down, [], []⟩,
  ⟨("_law_cell_at", none), "_law_cell_at", "_law_cell_at", defArgs s__law_cell_at, defBody s__law_cell_at, defScope s__law_cell_at, [], []⟩,
  ⟨("_law_mixed", none), "_law_mixed", "_law_mixed", defArgs s__law_mixed, defBody s__law_mixed, defScope s__law_mixed, [], []⟩,
  ⟨("_law_ten", none), "_law_ten", "_law_ten", defArgs s__law_ten, defBody s__law_ten, defScope s__law_ten, [], []⟩,
  ⟨("_law_figures", none), "_law_figures", "_law_figures", defArgs s__law_figures, defBody s__law_figures, defScope s__law_figures, [], []⟩,
  ⟨("_law_number", none), "_law_number", "_law_number", defArgs s__law_number, defBody s__law_number, defScope s__law_number, [], []⟩,
  ⟨("_law_made", none), "_law_made", "_law_made", defArgs s__law_made, defBody s__law_made, defScope s__law_made, [], []⟩,
  ⟨("_law_own", none), "_law_own", "_law_own", defArgs s__law_own, defBody s__law_own, defScope s__law_own, [], []⟩,
  ⟨("_law_context", none), "_law_context", "_law_context", defArgs s__law_context, defBody s__law_context, defScope s__law_context, [], []⟩,
  ⟨("_law_gone", none), "_law_gone", "_law_gone", defArgs s__law_gone, defBody s__law_gone, defScope s__law_gone, [], []⟩,
  ⟨("_law_tried", none), "_law_tried", "_law_tried", defArgs s__law_tried, defBody s__law_tried, defScope s__law_tried, [], []⟩,
  ⟨("_law_stands", none), "_law_stands", "_law_stands", defArgs s__law_stands, defBody s__law_stands, defScope s__law_stands, [], []⟩,
  ⟨("_law_shown", none), "_law_shown", "_law_shown", defArgs s__law_shown, defBody s__law_shown, defScope s__law_shown, [], []⟩,
  ⟨("_law_most", none), "_law_most", "_law_most", defArgs s__law_most, defBody s__law_most, defScope s__law_most, [], []⟩,
  ⟨("_law_grid", none), "_law_grid", "_law_grid", defArgs s__law_grid, defBody s__law_grid, defScope s__law_grid, [], []⟩,
  ⟨("_law_farther", none), "_law_farther", "_law_farther", defArgs s__law_farther, defBody s__law_farther, defScope s__law_farther, [], []⟩,
  ⟨("_law_nearer", none), "_law_nearer", "_law_nearer", defArgs s__law_nearer, defBody s__law_nearer, defScope s__law_nearer, [], []⟩,
  ⟨("_law_due", none), "_law_due", "_law_due", defArgs s__law_due, defBody s__law_due, defScope s__law_due, [], []⟩,
  ⟨("_law_border", none), "_law_border", "_law_border", defArgs s__law_border, defBody s__law_border, defScope s__law_border, [], []⟩,
  ⟨("law", none), "law", "law", defArgs s_law, defBody s_law, defScope s_law, [], []⟩,
  ⟨("Trapped", some "__init__"), "__init__", "Trapped.__init__", defArgs s_Trapped___init__, defBody s_Trapped___init__, defScope s_Trapped___init__, [], []⟩]
abbrev R : PySem.W.OpenRow := PySem.W.OpenLaw.row PySem.Challenge.rw_tenreckon_k30_next_ones
def loose : List Str := (["_wall", "ReckonError", "BadNumber", "BadContext", "Trapped", "MOST_POWER", "is_whole", "Number", "plain", "end", "nothing", "need_number", "told", "count_of", "ten_to", "lead_of", "part_of", "Exact", "Ratio", "WAYS", "Way", "Down", "Up", "Floor", "Ceiling", "HalfUp", "HalfDown", "HalfEven", "FiveUp", "half_way"] : List Str) ++ ((["way_of", "SIGNALS", "MOST_ROOM", "MOST_LEAD", "need", "is_signal", "Context", "greatest_of", "last_place", "one_farther", "one_nearer", "next_to", "next_up", "next_down", "_law_cell_at", "_law_mixed", "_law_ten", "_law_figures", "_law_number", "_law_made", "_law_own", "_law_context", "_law_tried", "_law_stands", "_law_shown", "_law_most", "_law_grid", "_law_farther", "_law_nearer", "_law_due"] : List Str) ++ ((["_law_border", "_law_gone"] : List Str)))
abbrev qv : Program := PySem.W.view R.prog [69]
theorem ask_l (w : World) : TW.Asks R.prog 20000 (fun s => HandSHeadRun.looksF R.prog (PySem.W.boot_heap w.params) s.abs) true w := by intro os; kernel_rfl
theorem ask_s (w : World) : TW.Asks R.prog 20000 (fun s => HandSHeadRun.seenQ qv loose (importedModules R.prog.main.body) (fun s => PySem.W.xlAt qv [] s && PySem.W.recOk R.toRowW.records s) s.abs) (PySem.W.openGood qv loose) w := by intro os; kernel_rfl
theorem ask_v (w : World) : TW.Asks R.prog 20000 (fun s => fn.map fun d => He.fnW (TW.frC (HandSHeadRun.getT s)) d.at_) (fn.map He.DefD.val) w := by intro os; kernel_rfl
theorem ask_d (w : World) : TW.Asks R.prog 20000 (fun s => fn.all fun d => d.ok (TW.frC (HandSHeadRun.getT s))) true w := by intro os; kernel_rfl
theorem ask_f0 (w : World) : TW.Asks R.prog 20000 (fun s => (fx0 (TW.frC (HandSHeadRun.getT s))).all fun b => b) true w := by intro os; kernel_rfl
def tf : List He.Defn := [("law", none)]
theorem ask_t (w : World) : TW.Asks R.prog 20000 (fun s => TW.tabsL (HandSHeadRun.getT s) tf (TW.frC (HandSHeadRun.getT s))) true w := by intro os; kernel_rfl
theorem run (w : World) : HandSHeadRun.RunEq R qv (TW.hookL fx fn tf) (TW.obL fx fn tf) 20000 loose w := TW.run_ofL (ask_l w) (ask_s w) (fun os s e => ⟨(ask_f0 w).at_ e, (ask_d w).at_ e, (ask_v w).at_ e⟩) (ask_t w)
theorem facts {P : Program} {w : World} {K : PySem.W.Frag} {h : Heap} {mg : Str → Option Value} {fa : Addr} (X : K.In h) (G : h.Ns mainGlobals mg) (hfa : mg ("law" : Str) = some (.ref fa)) (c : TW.SaysC fx fn K) :
    ∃ fd : FuncData, (∀ (s : Shared) (v : Value), BindsTo s fd ⟨[v], []⟩ [("_law_script", v)]) ∧ ∀ base : Heap, K.In base → base.Ns mainGlobals mg → (∀ p ∈ [((He.cT K ("law", none)).1, (He.cT K ("law", none)).2)], LamX.TabB base mg p.1 p.2) → FnG P w K mg base 12 fa fd ["_law_script"] (sLawT L_law_lam0.q (He.cT K ("law", none)).2) :=
  all_mk (P := P) (w := w) (K := K) X G hfa
    (h_a_is_whole := c.dec 0 rfl)
    (h_F_is_whole := c.def_ 0 rfl)
    (h_F_Number___init__ := c.def_ 1 rfl)
    (h_a_plain := c.dec 1 rfl)
    (h_F_plain := c.def_ 2 rfl)
    (h_a_end := c.dec 2 rfl)
    (h_F_end := c.def_ 3 rfl)
    (h_a_nothing := c.dec 3 rfl)
    (h_F_nothing := c.def_ 4 rfl)
    (h_a_need_number := c.dec 4 rfl)
    (h_F_need_number := c.def_ 5 rfl)
    (h_a_told := c.dec 5 rfl)
    (h_F_told := c.def_ 6 rfl)
    (h_a_ten_to := c.dec 6 rfl)
    (h_F_ten_to := c.def_ 7 rfl)
    (h_a_count_of := c.dec 7 rfl)
    (h_F_count_of := c.def_ 8 rfl)
    (h_a_lead_of := c.dec 8 rfl)
    (h_F_lead_of := c.def_ 9 rfl)
    (h_a_part_of := c.dec 9 rfl)
    (h_F_part_of := c.def_ 10 rfl)
    (h_F_Ratio___init__ := c.def_ 11 rfl)
    (h_F_Ratio_at := c.def_ 12 rfl)
    (h_F_Way_name := c.def_ 13 rfl)
    (h_F_Up_name := c.def_ 14 rfl)
    (h_F_Floor_name := c.def_ 15 rfl)
    (h_F_Ceiling_name := c.def_ 16 rfl)
    (h_F_HalfUp_name := c.def_ 17 rfl)
    (h_F_HalfDown_name := c.def_ 18 rfl)
    (h_F_HalfEven_name := c.def_ 19 rfl)
    (h_F_FiveUp_name := c.def_ 20 rfl)
    (h_a_half_way := c.dec 10 rfl)
    (h_F_half_way := c.def_ 21 rfl)
    (h_a_way_of := c.dec 11 rfl)
    (h_F_way_of := c.def_ 22 rfl)
    (h_a_need := c.dec 12 rfl)
    (h_F_need := c.def_ 23 rfl)
    (h_a_is_signal := c.dec 13 rfl)
    (h_F_is_signal := c.def_ 24 rfl)
    (h_F_Context___init__ := c.def_ 25 rfl)
    (h_F_Context_lowest := c.def_ 26 rfl)
    (h_F_Context_flags := c.def_ 27 rfl)
    (h_F_Context_trap := c.def_ 28 rfl)
    (h_F_Context_traps := c.def_ 29 rfl)
    (h_F_Context_raised := c.def_ 30 rfl)
    (h_a_greatest_of := c.dec 14 rfl)
    (h_F_greatest_of := c.def_ 31 rfl)
    (h_a_last_place := c.dec 15 rfl)
    (h_F_last_place := c.def_ 32 rfl)
    (h_a_one_farther := c.dec 16 rfl)
    (h_F_one_farther := c.def_ 33 rfl)
    (h_a_one_nearer := c.dec 17 rfl)
    (h_F_one_nearer := c.def_ 34 rfl)
    (h_a_next_to := c.dec 18 rfl)
    (h_F_next_to := c.def_ 35 rfl)
    (h_a_next_up := c.dec 19 rfl)
    (h_F_next_up := c.def_ 36 rfl)
    (h_a_next_down := c.dec 20 rfl)
    (h_F_next_down := c.def_ 37 rfl)
    (h_a__law_cell_at := c.dec 21 rfl)
    (h_F__law_cell_at := c.def_ 38 rfl)
    (h_a__law_mixed := c.dec 22 rfl)
    (h_F__law_mixed := c.def_ 39 rfl)
    (h_a__law_ten := c.dec 23 rfl)
    (h_F__law_ten := c.def_ 40 rfl)
    (h_a__law_figures := c.dec 24 rfl)
    (h_F__law_figures := c.def_ 41 rfl)
    (h_a__law_number := c.dec 25 rfl)
    (h_F__law_number := c.def_ 42 rfl)
    (h_a__law_made := c.dec 26 rfl)
    (h_F__law_made := c.def_ 43 rfl)
    (h_a__law_own := c.dec 27 rfl)
    (h_F__law_own := c.def_ 44 rfl)
    (h_a__law_context := c.dec 28 rfl)
    (h_F__law_context := c.def_ 45 rfl)
    (h_a__law_gone := c.dec 29 rfl)
    (h_F__law_gone := c.def_ 46 rfl)
    (h_a__law_tried := c.dec 30 rfl)
    (h_F__law_tried := c.def_ 47 rfl)
    (h_a__law_stands := c.dec 31 rfl)
    (h_F__law_stands := c.def_ 48 rfl)
    (h_a__law_shown := c.dec 32 rfl)
    (h_F__law_shown := c.def_ 49 rfl)
    (h_a__law_most := c.dec 33 rfl)
    (h_F__law_most := c.def_ 50 rfl)
    (h_a__law_grid := c.dec 34 rfl)
    (h_F__law_grid := c.def_ 51 rfl)
    (h_a__law_farther := c.dec 35 rfl)
    (h_F__law_farther := c.def_ 52 rfl)
    (h_a__law_nearer := c.dec 36 rfl)
    (h_F__law_nearer := c.def_ 53 rfl)
    (h_a__law_due := c.dec 37 rfl)
    (h_F__law_due := c.def_ 54 rfl)
    (h_a__law_border := c.dec 38 rfl)
    (h_F__law_border := c.def_ 55 rfl)
    (h_a_law := c.dec 39 rfl)
    (h_F_law := c.def_ 56 rfl)
    (lc_law := (He.cT K ("law", none)).1) (lp_law := (He.cT K ("law", none)).2) (h_hc_law := fun d F => TW.code_of F)
    (h_n_ReckonError := c.dec 40 rfl)
    (h_n_BadNumber := c.dec 41 rfl)
    (h_n_BadContext := c.dec 42 rfl)
    (h_n_Trapped := c.dec 43 rfl)
    (h_n_Number := c.dec 44 rfl)
    (h_pg_Number := c.fact 45 rfl)
    (h_hd_Number := c.fact 46 rfl)
    (h_po_Number := c.fact 47 rfl)
    (h_sa_Number := c.dec 48 rfl)
    (h_ha_Number := c.dec 49 rfl)
    (h_hn_Number := c.dec 50 rfl)
    (h_htk_Number := c.dec 51 rfl)
    (h_hm_Number := c.dec 52 rfl)
    (h_mk_Number := c.fact 53 rfl)
    (h_kc_Number := c.fact 54 rfl)
    (h_in_Number := c.dec 55 rfl)
    (h_if_Number := c.fact 56 rfl)
    (h_no_Number_kind := c.dec 57 rfl)
    (h_no_Number_sign := c.dec 58 rfl)
    (h_no_Number_figures := c.dec 59 rfl)
    (h_no_Number_power := c.dec 60 rfl)
    (h_n_Ratio := c.dec 61 rfl)
    (h_pg_Ratio := c.fact 62 rfl)
    (h_hd_Ratio := c.fact 63 rfl)
    (h_po_Ratio := c.fact 64 rfl)
    (h_sa_Ratio := c.dec 65 rfl)
    (h_ha_Ratio := c.dec 66 rfl)
    (h_hn_Ratio := c.dec 67 rfl)
    (h_htk_Ratio := c.dec 68 rfl)
    (h_hm_Ratio := c.dec 69 rfl)
    (h_mk_Ratio := c.fact 70 rfl)
    (h_kc_Ratio := c.fact 71 rfl)
    (h_in_Ratio := c.dec 72 rfl)
    (h_if_Ratio := c.fact 73 rfl)
    (h_no_Ratio_top := c.dec 74 rfl)
    (h_no_Ratio_bottom := c.dec 75 rfl)
    (h_no_Ratio_scale := c.dec 76 rfl)
    (h_n_Way := c.dec 77 rfl)
    (h_pg_Way := c.fact 78 rfl)
    (h_hd_Way := c.fact 79 rfl)
    (h_po_Way := c.fact 80 rfl)
    (h_sa_Way := c.dec 81 rfl)
    (h_ha_Way := c.dec 82 rfl)
    (h_hn_Way := c.dec 83 rfl)
    (h_htk_Way := c.dec 84 rfl)
    (h_hm_Way := c.dec 85 rfl)
    (h_n_Down := c.dec 86 rfl)
    (h_pg_Down := c.fact 87 rfl)
    (h_hd_Down := c.fact 88 rfl)
    (h_po_Down := c.fact 89 rfl)
    (h_sa_Down := c.dec 90 rfl)
    (h_ha_Down := c.dec 91 rfl)
    (h_hn_Down := c.dec 92 rfl)
    (h_htk_Down := c.dec 93 rfl)
    (h_hm_Down := c.dec 94 rfl)
    (h_n_Up := c.dec 95 rfl)
    (h_pg_Up := c.fact 96 rfl)
    (h_hd_Up := c.fact 97 rfl)
    (h_po_Up := c.fact 98 rfl)
    (h_sa_Up := c.dec 99 rfl)
    (h_ha_Up := c.dec 100 rfl)
    (h_hn_Up := c.dec 101 rfl)
    (h_htk_Up := c.dec 102 rfl)
    (h_hm_Up := c.dec 103 rfl)
    (h_n_Floor := c.dec 104 rfl)
    (h_pg_Floor := c.fact 105 rfl)
    (h_hd_Floor := c.fact 106 rfl)
    (h_po_Floor := c.fact 107 rfl)
    (h_sa_Floor := c.dec 108 rfl)
    (h_ha_Floor := c.dec 109 rfl)
    (h_hn_Floor := c.dec 110 rfl)
    (h_htk_Floor := c.dec 111 rfl)
    (h_hm_Floor := c.dec 112 rfl)
    (h_n_Ceiling := c.dec 113 rfl)
    (h_pg_Ceiling := c.fact 114 rfl)
    (h_hd_Ceiling := c.fact 115 rfl)
    (h_po_Ceiling := c.fact 116 rfl)
    (h_sa_Ceiling := c.dec 117 rfl)
    (h_ha_Ceiling := c.dec 118 rfl)
    (h_hn_Ceiling := c.dec 119 rfl)
    (h_htk_Ceiling := c.dec 120 rfl)
    (h_hm_Ceiling := c.dec 121 rfl)
    (h_n_HalfUp := c.dec 122 rfl)
    (h_pg_HalfUp := c.fact 123 rfl)
    (h_hd_HalfUp := c.fact 124 rfl)
    (h_po_HalfUp := c.fact 125 rfl)
    (h_sa_HalfUp := c.dec 126 rfl)
    (h_ha_HalfUp := c.dec 127 rfl)
    (h_hn_HalfUp := c.dec 128 rfl)
    (h_htk_HalfUp := c.dec 129 rfl)
    (h_hm_HalfUp := c.dec 130 rfl)
    (h_n_HalfDown := c.dec 131 rfl)
    (h_pg_HalfDown := c.fact 132 rfl)
    (h_hd_HalfDown := c.fact 133 rfl)
    (h_po_HalfDown := c.fact 134 rfl)
    (h_sa_HalfDown := c.dec 135 rfl)
    (h_ha_HalfDown := c.dec 136 rfl)
    (h_hn_HalfDown := c.dec 137 rfl)
    (h_htk_HalfDown := c.dec 138 rfl)
    (h_hm_HalfDown := c.dec 139 rfl)
    (h_n_HalfEven := c.dec 140 rfl)
    (h_pg_HalfEven := c.fact 141 rfl)
    (h_hd_HalfEven := c.fact 142 rfl)
    (h_po_HalfEven := c.fact 143 rfl)
    (h_sa_HalfEven := c.dec 144 rfl)
    (h_ha_HalfEven := c.dec 145 rfl)
    (h_hn_HalfEven := c.dec 146 rfl)
    (h_htk_HalfEven := c.dec 147 rfl)
    (h_hm_HalfEven := c.dec 148 rfl)
    (h_n_FiveUp := c.dec 149 rfl)
    (h_pg_FiveUp := c.fact 150 rfl)
    (h_hd_FiveUp := c.fact 151 rfl)
    (h_po_FiveUp := c.fact 152 rfl)
    (h_sa_FiveUp := c.dec 153 rfl)
    (h_ha_FiveUp := c.dec 154 rfl)
    (h_hn_FiveUp := c.dec 155 rfl)
    (h_htk_FiveUp := c.dec 156 rfl)
    (h_hm_FiveUp := c.dec 157 rfl)
    (h_n_Context := c.dec 158 rfl)
    (h_pg_Context := c.fact 159 rfl)
    (h_hd_Context := c.fact 160 rfl)
    (h_po_Context := c.fact 161 rfl)
    (h_sa_Context := c.dec 162 rfl)
    (h_ha_Context := c.dec 163 rfl)
    (h_hn_Context := c.dec 164 rfl)
    (h_htk_Context := c.dec 165 rfl)
    (h_hm_Context := c.dec 166 rfl)
    (h_mk_Context := c.fact 167 rfl)
    (h_kc_Context := c.fact 168 rfl)
    (h_in_Context := c.dec 169 rfl)
    (h_if_Context := c.fact 170 rfl)
    (h_no_Context_manner := c.dec 171 rfl)
    (h_no_Context_room := c.dec 172 rfl)
    (h_no_Context_least := c.dec 173 rfl)
    (h_no_Context_most := c.dec 174 rfl)
    (h_no_Context_standing := c.dec 175 rfl)
    (h_no_Context_caught := c.dec 176 rfl)
    (h_z_all := c.dec 177 rfl)
    (h_z_bool := c.dec 178 rfl)
    (h_z_dict := c.dec 179 rfl)
    (h_z_divmod := c.dec 180 rfl)
    (h_z_int := c.dec 181 rfl)
    (h_z_isinstance := c.dec 182 rfl)
    (h_z_len := c.dec 183 rfl)
    (h_z_list := c.dec 184 rfl)
    (h_z_max := c.dec 185 rfl)
    (h_z_min := c.dec 186 rfl)
    (h_z_range := c.dec 187 rfl)
    (h_z_str := c.dec 188 rfl)
    (h_xx_BadContext := c.fact 189 rfl)
    (h_xk_BadContext := c.fact 190 rfl)
    (h_xb_BadContext := c.dec 191 rfl)
    (h_xt_BadContext := c.dec 192 rfl)
    (h_xi_BadContext := c.fact 193 rfl)
    (h_xx_BadNumber := c.fact 194 rfl)
    (h_xk_BadNumber := c.fact 195 rfl)
    (h_xb_BadNumber := c.dec 196 rfl)
    (h_xt_BadNumber := c.dec 197 rfl)
    (h_xi_BadNumber := c.fact 198 rfl)
    (h_echg_Trapped := c.dec 199 rfl)
    (h_echk_Trapped := c.dec 200 rfl)
    (h_echs_Trapped := c.dec 201 rfl)
    (h_echd_Trapped := c.fact 202 rfl)
    (h_echa_Trapped := c.dec 203 rfl)
    (h_echn_Trapped := c.dec 204 rfl)
    (h_echt_Trapped := c.dec 205 rfl)
    (h_echm_Trapped := c.dec 206 rfl)
    (h_exm_Trapped_Trapped := c.dec 207 rfl)
    (h_mk0_Ceiling := c.fact 208 rfl)
    (h_in0_Ceiling := c.dec 209 rfl)
    (h_kc0_Ceiling := c.fact 210 rfl)
    (h_mk0_Down := c.fact 211 rfl)
    (h_in0_Down := c.dec 212 rfl)
    (h_kc0_Down := c.fact 213 rfl)
    (h_mk0_FiveUp := c.fact 214 rfl)
    (h_in0_FiveUp := c.dec 215 rfl)
    (h_kc0_FiveUp := c.fact 216 rfl)
    (h_mk0_Floor := c.fact 217 rfl)
    (h_in0_Floor := c.dec 218 rfl)
    (h_kc0_Floor := c.fact 219 rfl)
    (h_mk0_HalfDown := c.fact 220 rfl)
    (h_in0_HalfDown := c.dec 221 rfl)
    (h_kc0_HalfDown := c.fact 222 rfl)
    (h_mk0_HalfEven := c.fact 223 rfl)
    (h_in0_HalfEven := c.dec 224 rfl)
    (h_kc0_HalfEven := c.fact 225 rfl)
    (h_mk0_HalfUp := c.fact 226 rfl)
    (h_in0_HalfUp := c.dec 227 rfl)
    (h_kc0_HalfUp := c.fact 228 rfl)
    (h_mk0_Up := c.fact 229 rfl)
    (h_in0_Up := c.dec 230 rfl)
    (h_kc0_Up := c.fact 231 rfl)
    (h_M_Ceiling_name := c.dec 232 rfl)
    (h_Mi_Ceiling_name := c.fact 233 rfl)
    (h_M_Context_flags := c.dec 234 rfl)
    (h_Mi_Context_flags := c.fact 235 rfl)
    (h_M_Context_lowest := c.dec 236 rfl)
    (h_Mi_Context_lowest := c.fact 237 rfl)
    (h_M_Context_raised := c.dec 238 rfl)
    (h_Mi_Context_raised := c.fact 239 rfl)
    (h_M_Context_trap := c.dec 240 rfl)
    (h_Mi_Context_trap := c.fact 241 rfl)
    (h_M_Context_traps := c.dec 242 rfl)
    (h_Mi_Context_traps := c.fact 243 rfl)
    (h_M_Down_name := c.dec 244 rfl)
    (h_Mi_Down_name := c.fact 245 rfl)
    (h_M_FiveUp_name := c.dec 246 rfl)
    (h_Mi_FiveUp_name := c.fact 247 rfl)
    (h_M_Floor_name := c.dec 248 rfl)
    (h_Mi_Floor_name := c.fact 249 rfl)
    (h_M_HalfDown_name := c.dec 250 rfl)
    (h_Mi_HalfDown_name := c.fact 251 rfl)
    (h_M_HalfEven_name := c.dec 252 rfl)
    (h_Mi_HalfEven_name := c.fact 253 rfl)
    (h_M_HalfUp_name := c.dec 254 rfl)
    (h_Mi_HalfUp_name := c.fact 255 rfl)
    (h_M_Ratio_at := c.dec 256 rfl)
    (h_Mi_Ratio_at := c.fact 257 rfl)
    (h_M_Up_name := c.dec 258 rfl)
    (h_Mi_Up_name := c.fact 259 rfl)
    (h_F_Trapped___init__ := c.def_ 57 rfl)
    (h_tr_xo := c.fact 260 rfl)
    (h_tr_sa := c.dec 261 rfl)
    (h_tr_ga := c.dec 262 rfl)
    (h_tr_gg := c.dec 263 rfl)
    (h_tr_nn := c.dec 264 rfl)
    (h_tr_ic := c.dec 265 rfl)
    (h_tr_tc := c.dec 266 rfl)
    (h_tr_kc := c.fact 267 rfl)
    (h_tr_ex := c.dec 268 rfl)
    (h_tr_ty := c.dec 269 rfl)
    (h_tr_hd := c.fact 270 rfl)
    (h_tr_gb := c.dec 271 rfl)
    (h_tr_rb := c.fact 272 rfl)
    (h_tr_ib := c.dec 273 rfl)
    (h_tr_fb := c.fact 274 rfl)
    (h_ic_Number := c.fact 275 rfl)
    (h_it_Number := c.dec 276 rfl)
    (h_is_Number_Number := c.dec 277 rfl)
    (h_g_MOST_LEAD := He.int_ok X G (c.fact 278 rfl))
    (h_g_MOST_POWER := He.int_ok X G (c.fact 279 rfl))
    (h_g_MOST_ROOM := He.int_ok X G (c.fact 280 rfl))
    (h_g_SIGNALS := c.dec 281 rfl)
    (h_gl_SIGNALS := fun G => He.tupB_ok (c.fact 282 rfl) G)
    (h_g_WAYS := c.dec 283 rfl)
    (h_gl_WAYS := fun G => He.tupB_ok (c.fact 284 rfl) G)
end K30
open PySem PySem.W PyProof.Rows in
set_option maxRecDepth 100000 in
set_option maxHeartbeats 0 in
theorem PySem.Challenge.cw_tenreckon_k30_next_ones_holds : PySem.Challenge.rw_tenreckon_k30_next_ones.Holds := by
  w_on; o_law
  refine HandSHeadRun.head_any (r := OpenLaw.row PySem.Challenge.rw_tenreckon_k30_next_ones) (q := K30.qv) (H := TW.hookL K30.fx K30.fn K30.tf) (ob := TW.obL K30.fx K30.fn K30.tf) (M := 20000) (loose := K30.loose) (d := HandSHeadRun.topDef (OpenLaw.row PySem.Challenge.rw_tenreckon_k30_next_ones).prog 69) (kwd := []) TW.obL_eq
    (by kernel_rfl) (fun s => by kernel_rfl) K30.run (by kernel_rfl) (by kernel_rfl) (by kernel_rfl) (by rfl) (by first | assumption | decide +kernel) (by decide +kernel) ⟨rfl, rfl, rfl, rfl, rfl, by decide +kernel⟩ ?hw ?hc
  case hw => w_witness2
  case hc =>
    refine TW.walk_ofG (l := PySem.Challenge.rw_tenreckon_k30_next_ones) (n := 63) (k := 12) (x := "_law_script") rfl (by decide) (by kernel_rfl) ⟨rfl, by decide, by decide⟩ ?F
    intro w mg fa h Y G hmg0
    obtain ⟨K, KX, c⟩ := Y
    have hmg : mg ("law" : PySem.Str) = some (.ref fa) := by
      have e : (HandSHeadRun.topDef (OpenLaw.row PySem.Challenge.rw_tenreckon_k30_next_ones).prog 69).name = ("law" : PySem.Str) := by kernel_rfl
      rw [← e]
      exact hmg0
    obtain ⟨fd, hb, hF⟩ := K30.facts (P := (PySem.Challenge.rw_tenreckon_k30_next_ones).prog) (w := w) KX G hmg c.c
    have hmem : (("law", none) : He.Defn) ∈ K30.tf := List.mem_cons_self
    have one : ∀ p ∈ [He.cT K ("law", none)], p = He.cT K ("law", none) := fun p hp => by simpa using hp
    exact ⟨K, fd, [He.cT K ("law", none)], _, KX, fun p hp => by rw [one p hp]; exact c.empty _ hmem, fun p hp => by rw [one p hp]; exact c.out _ hmem, fun p hp => by rw [one p hp]; exact PySem.W.codeHd_of_K KX (c.hd _ hmem), hb,
      fun H a ns hl hT hS => TQ.law_endT _ [(He.cT K ("law", none)).2] (fun P hP => by rw [List.mem_singleton.mp hP]; exact hT _ List.mem_cons_self) hS _ ⟨ns, rfl, hl, if_pos List.mem_cons_self, fun _ => rfl⟩, hF⟩

