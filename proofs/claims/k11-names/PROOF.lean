import PyProof.Rows.All
import Wide.All
import OpenK.AllK
import Wide.FinOn
import HandS.ForMost
import HandS.ForExc
import HandS.IsInst
import HandS.Deep
import HandS.Style
import HandS.Small
import HandS.Flow
import HandS.Wide
import HandS.Walk
import PySem.Challenge.RW_callbinds_k11_names
set_option Elab.async false
set_option maxRecDepth 100000
set_option linter.all false
set_option maxHeartbeats 4000000
/-! Den1.lean -/
namespace Dn
open PySem PySem.Spec PyProof.Rows L2

/-- data without addresses -/
inductive D where
  | non | bl (b : Bool) | int (i : Int) | str (s : Str) | ty (n : String) | cl (c : Nat) | scr (ns : List Int)
  | lst (ds : List D) | tup (ds : List D) | obj (c : Nat) (ds : List D) | dic (ks : List Key) (ds : List D)

def sOk (s : Str) : Bool := decide (s.length ≤ sizeLine) && PyData.strOk s
/-- the classes' addresses and their instances' attributes in order -/
structure Gm where
  K : PySem.W.Frag
  cls : Nat → Addr
  flds : Nat → List Str

mutual
/-- v stands for d over F -/
def Rep (Γ : Gm) (F : Hp) : D → V → Prop
  | .non, v => v = .non
  | .bl b, v => v = .bl b
  | .int i, v => v = .int i
  | .str s, v => v = .str s ∧ sOk s = true
  | .ty n, v => v = .ty n
  | .cl c, v => v = .ref (Γ.cls c)
  | .scr ns, v => ∃ a, v = .ref a ∧ ns.length ≤ sizeLine ∧ SqL Γ.K F a (ns.map V.int) ∧ ((∃ xs, F a = some (.lst xs)) ∨ (∃ o xs, F a = some (.frz o (.lst xs))) ∨ ∃ o, Γ.K.lookup a = some o ∧ o.cls = .type "list")
  | .lst ds, v => ∃ a vs, v = .ref a ∧ F a = some (.lst vs) ∧ ds.length ≤ sizeLine ∧ Reps Γ F ds vs
  | .tup ds, v => ∃ a vs, v = .ref a ∧ SqT Γ.K F a vs ∧ ds.length ≤ sizeLine ∧ Reps Γ F ds vs
  | .obj c ds, v => ∃ a dx fs, v = .ref a ∧ F a = some (.ins (Γ.cls c) dx fs) ∧ fs.map (·.1) = Γ.flds c ∧ Reps Γ F ds (fs.map (·.2))
  | .dic ks ds, v => ∃ a kvs, v = .ref a ∧ F a = some (.dK kvs) ∧ kvs.map (·.1) = ks ∧ kvs.length ≤ sizeLine ∧ Reps Γ F ds (kvs.map (·.2))
def Reps (Γ : Gm) (F : Hp) : List D → List V → Prop
  | [], vs => vs = []
  | d :: ds, vs => ∃ v r, vs = v :: r ∧ Rep Γ F d v ∧ Reps Γ F ds r
end

theorem Reps.length {Γ : Gm} {F : Hp} : ∀ {ds : List D} {vs : List V}, Reps Γ F ds vs → vs.length = ds.length
  | [], vs, h => by rw [Reps] at h; subst h; rfl
  | d :: ds, vs, h => by
    rw [Reps] at h
    obtain ⟨v, r, rfl, _, h⟩ := h
    simp [Reps.length h]
theorem Reps.nil {Γ : Gm} {F : Hp} : Reps Γ F [] [] := by rw [Reps]
theorem Reps.cons {Γ : Gm} {F : Hp} {d : D} {v : V} {ds : List D} {vs : List V} (h : Rep Γ F d v) (t : Reps Γ F ds vs) : Reps Γ F (d :: ds) (v :: vs) := by
  rw [Reps]; exact ⟨v, vs, rfl, h, t⟩
theorem Reps.nil_inv {Γ : Gm} {F : Hp} {vs : List V} (h : Reps Γ F [] vs) : vs = [] := by rw [Reps] at h; exact h
theorem Reps.cons_inv {Γ : Gm} {F : Hp} {d : D} {ds : List D} {vs : List V} (h : Reps Γ F (d :: ds) vs) : ∃ v r, vs = v :: r ∧ Rep Γ F d v ∧ Reps Γ F ds r := by rw [Reps] at h; exact h
theorem Reps.append {Γ : Gm} {F : Hp} : ∀ {ds es : List D} {vs ws : List V}, Reps Γ F ds vs → Reps Γ F es ws → Reps Γ F (ds ++ es) (vs ++ ws)
  | [], es, vs, ws, h, k => by rw [h.nil_inv]; exact k
  | d :: ds, es, vs, ws, h, k => by
    obtain ⟨v, r, rfl, h1, h2⟩ := h.cons_inv
    exact .cons h1 (Reps.append h2 k)
theorem Reps.get {Γ : Gm} {F : Hp} : ∀ {ds : List D} {vs : List V} {i : Nat} {d : D}, Reps Γ F ds vs → ds[i]? = some d → ∃ v, vs[i]? = some v ∧ Rep Γ F d v
  | [], _, _, _, _, e => by simp at e
  | _ :: _, _, 0, _, h, e => by
    obtain ⟨v, r, rfl, h1, h2⟩ := h.cons_inv
    simp at e; subst e; exact ⟨v, rfl, h1⟩
  | _ :: ds, _, i + 1, d, h, e => by
    obtain ⟨v, r, rfl, h1, h2⟩ := h.cons_inv
    obtain ⟨u, a, b⟩ := Reps.get (i := i) h2 (by simpa using e)
    exact ⟨u, by simpa using a, b⟩
theorem Reps.getV {Γ : Gm} {F : Hp} {ds : List D} {vs : List V} {i : Nat} {v : V} (h : Reps Γ F ds vs) (e : vs[i]? = some v) : ∃ d, ds[i]? = some d ∧ Rep Γ F d v := by
  have hl : i < ds.length := by rw [← h.length]; exact (List.getElem?_eq_some_iff.mp e).1
  obtain ⟨u, a, b⟩ := h.get (i := i) (d := ds[i]) (by simp [hl])
  rw [e] at a; cases a
  exact ⟨_, by simp [hl], b⟩
theorem Reps.take {Γ : Gm} {F : Hp} : ∀ {ds : List D} {vs : List V} (n : Nat), Reps Γ F ds vs → Reps Γ F (ds.take n) (vs.take n)
  | _, _, 0, _ => by simp; exact .nil
  | [], _, n + 1, h => by rw [h.nil_inv]; simp; exact .nil
  | d :: ds, _, n + 1, h => by
    obtain ⟨v, r, rfl, h1, h2⟩ := h.cons_inv
    exact .cons h1 (Reps.take n h2)
theorem Reps.drop {Γ : Gm} {F : Hp} : ∀ {ds : List D} {vs : List V} (n : Nat), Reps Γ F ds vs → Reps Γ F (ds.drop n) (vs.drop n)
  | _, _, 0, h => by simpa using h
  | [], _, n + 1, h => by rw [h.nil_inv]; simp; exact .nil
  | d :: ds, _, n + 1, h => by
    obtain ⟨v, r, rfl, h1, h2⟩ := h.cons_inv
    simpa using Reps.drop n h2
theorem Reps.reverse {Γ : Gm} {F : Hp} : ∀ {ds : List D} {vs : List V}, Reps Γ F ds vs → Reps Γ F ds.reverse vs.reverse
  | [], _, h => by rw [h.nil_inv]; exact .nil
  | d :: ds, _, h => by
    obtain ⟨v, r, rfl, h1, h2⟩ := h.cons_inv
    rw [List.reverse_cons, List.reverse_cons]
    exact (Reps.reverse h2).append (.cons h1 .nil)
theorem Reps.dropLast {Γ : Gm} {F : Hp} {ds : List D} {vs : List V} (h : Reps Γ F ds vs) : Reps Γ F ds.dropLast vs.dropLast := by
  rw [List.dropLast_eq_take, List.dropLast_eq_take, h.length]; exact h.take _
theorem Reps.set {Γ : Gm} {F : Hp} {d : D} {v : V} (k : Rep Γ F d v) : ∀ {ds : List D} {vs : List V} (i : Nat), Reps Γ F ds vs → Reps Γ F (ds.set i d) (vs.set i v)
  | [], _, _, h => by rw [h.nil_inv]; exact .nil
  | e :: ds, _, 0, h => by
    obtain ⟨u, r, rfl, h1, h2⟩ := h.cons_inv
    exact .cons k h2
  | e :: ds, _, i + 1, h => by
    obtain ⟨u, r, rfl, h1, h2⟩ := h.cons_inv
    exact .cons h1 (Reps.set k i h2)

theorem Same.sqt {K : PySem.W.Frag} {H H' : Hp} {a : Addr} {xs : List V} (e : Same H H') (h : SqT K H a xs) : SqT K H' a xs := by
  rcases h with (h | ⟨o, h⟩) | h
  · exact .inl (.inl (e _ _ h))
  · exact .inl (.inr ⟨o, e _ _ h⟩)
  · exact .inr h
mutual
theorem Rep.mono {Γ : Gm} {F F' : Hp} (s : Same F F') : ∀ (d : D) (v : V), Rep Γ F d v → Rep Γ F' d v
  | .non, _, h => by rw [Rep] at h ⊢; exact h
  | .bl _, _, h => by rw [Rep] at h ⊢; exact h
  | .int _, _, h => by rw [Rep] at h ⊢; exact h
  | .str _, _, h => by rw [Rep] at h ⊢; exact h
  | .ty _, _, h => by rw [Rep] at h ⊢; exact h
  | .cl _, _, h => by rw [Rep] at h ⊢; exact h
  | .scr _, _, h => by
    rw [Rep] at h ⊢
    obtain ⟨a, e, l, q, z⟩ := h
    refine ⟨a, e, l, s.seq q, ?_⟩
    rcases z with ⟨xs, z⟩ | ⟨o, xs, z⟩ | z
    · exact .inl ⟨xs, s _ _ z⟩
    · exact .inr (.inl ⟨o, xs, s _ _ z⟩)
    · exact .inr (.inr z)
  | .lst ds, _, h => by
    rw [Rep] at h ⊢
    obtain ⟨a, vs, e, q, l, r⟩ := h
    exact ⟨a, vs, e, s _ _ q, l, Reps.mono s ds vs r⟩
  | .tup ds, _, h => by
    rw [Rep] at h ⊢
    obtain ⟨a, vs, e, q, l, r⟩ := h
    exact ⟨a, vs, e, Same.sqt s q, l, Reps.mono s ds vs r⟩
  | .obj c ds, _, h => by
    rw [Rep] at h ⊢
    obtain ⟨a, dx, fs, e, q, l, r⟩ := h
    exact ⟨a, dx, fs, e, s _ _ q, l, Reps.mono s ds _ r⟩
  | .dic ks ds, _, h => by
    rw [Rep] at h ⊢
    obtain ⟨a, kvs, e, q, l, z, r⟩ := h
    exact ⟨a, kvs, e, s _ _ q, l, z, Reps.mono s ds _ r⟩
theorem Reps.mono {Γ : Gm} {F F' : Hp} (s : Same F F') : ∀ (ds : List D) (vs : List V), Reps Γ F ds vs → Reps Γ F' ds vs
  | [], _, h => by rw [Reps] at h ⊢; exact h
  | d :: ds, _, h => by
    rw [Reps] at h ⊢
    obtain ⟨v, r, e, h1, h2⟩ := h
    exact ⟨v, r, e, Rep.mono s d v h1, Reps.mono s ds r h2⟩
end

/-- the heap at the entry, and what of it is data -/
structure Gd where
  B : Hp
  F0 : Hp
inductive Slot where
  | un | val (d : D) | own (d : D)
abbrev Env := List Slot

/-- an object that H holds at a, its parts over F -/
def Top (Γ : Gm) (F H : Hp) (a : Addr) : D → Prop
  | .lst ds => ∃ vs, H a = some (.lst vs) ∧ ds.length ≤ sizeLine ∧ Reps Γ F ds vs
  | .obj c ds => ∃ dx fs, H a = some (.ins (Γ.cls c) dx fs) ∧ fs.map (·.1) = (Γ.flds c).take ds.length ∧ Reps Γ F ds (fs.map (·.2))
  | .dic ks ds => ∃ kvs, H a = some (.dK kvs) ∧ kvs.map (·.1) = ks ∧ kvs.length ≤ sizeLine ∧ Reps Γ F ds (kvs.map (·.2))
  | _ => False
def SRep (Γ : Gm) (F H B : Hp) (x : Option V) : Slot → Prop
  | .un => True
  | .val d => ∃ v, x = some v ∧ Rep Γ F d v
  | .own d => ∃ a, x = some (.ref a) ∧ F a = none ∧ B a = none ∧ Top Γ F H a d

structure ER (Γ : Gm) (G : Gd) (env : Env) (σ : L2.St) (F H : Hp) : Prop where
  len : σ.length = env.length
  fh : Same F H
  bh : Same G.B H
  f0 : Same G.F0 F
  fr : ∀ p o, F p = some o → G.F0 p = some o ∨ G.B p = none
  sl : ∀ (i : Nat) (s : Slot), env[i]? = some s → ∃ x, σ[i]? = some x ∧ SRep Γ F H G.B x s
  ds : ∀ (i j : Nat) a di dj, env[i]? = some (.own di) → env[j]? = some (.own dj) → σ[i]? = some (some (.ref a)) → σ[j]? = some (some (.ref a)) → i = j

theorem Top.mono {Γ : Gm} {F H F' H' : Hp} {a : Addr} (s : Same F F') (t : ∀ o, H a = some o → H' a = some o) : ∀ {d : D}, Top Γ F H a d → Top Γ F' H' a d
  | .lst ds, ⟨vs, e, l, r⟩ => ⟨vs, t _ e, l, r.mono s⟩
  | .obj c ds, ⟨dx, fs, e, l, r⟩ => ⟨dx, fs, t _ e, l, r.mono s⟩
  | .dic ks ds, ⟨kvs, e, l, z, r⟩ => ⟨kvs, t _ e, l, z, r.mono s⟩
theorem Top.some {Γ : Gm} {F H : Hp} {a : Addr} : ∀ {d : D}, Top Γ F H a d → ∃ o, H a = some o
  | .lst ds, ⟨vs, e, l, r⟩ => ⟨_, e⟩
  | .obj c ds, ⟨dx, fs, e, l, r⟩ => ⟨_, e⟩
  | .dic ks ds, ⟨kvs, e, l, z, r⟩ => ⟨_, e⟩

/-- growth: data grows on new ground, all tracked stays -/
structure Gr (F H F' H' : Hp) : Prop where
  ff : Same F F'
  fh : Same F' H'
  hh : Same H H'
  new : ∀ p o, F' p = some o → F p = some o ∨ H p = none
theorem Gr.refl {F H : Hp} (h : Same F H) : Gr F H F H := ⟨Same.refl _, h, Same.refl _, fun _ _ e => .inl e⟩
theorem Gr.trans {F H F1 H1 F2 H2 : Hp} (a : Gr F H F1 H1) (b : Gr F1 H1 F2 H2) : Gr F H F2 H2 := ⟨a.ff.trans b.ff, b.fh, a.hh.trans b.hh, fun p o q => by
  rcases b.new p o q with z | z
  · exact a.new p o z
  · refine .inr ?_
    cases e : H p with
    | none => rfl
    | some u => have := a.hh p u e; rw [z] at this; cases this⟩
theorem SRep.gr {Γ : Gm} {F H F' H' B : Hp} {x : Option V} (g : Gr F H F' H') : ∀ {s : Slot}, SRep Γ F H B x s → SRep Γ F' H' B x s
  | .un, _ => trivial
  | .val d, ⟨v, e, r⟩ => ⟨v, e, r.mono g.ff⟩
  | .own d, ⟨a, e, f, b, t⟩ => by
    refine ⟨a, e, ?_, b, t.mono g.ff fun o => g.hh a o⟩
    cases q : F' a with
    | none => rfl
    | some o =>
      rcases g.new a o q with z | z
      · rw [f] at z; cases z
      · obtain ⟨o', z'⟩ := t.some; rw [z] at z'; cases z'
theorem ER.gr {Γ : Gm} {G : Gd} {env : Env} {σ : L2.St} {F H F' H' : Hp} (e : ER Γ G env σ F H) (g : Gr F H F' H') : ER Γ G env σ F' H' where
  len := e.len
  fh := g.fh
  bh := e.bh.trans g.hh
  f0 := e.f0.trans g.ff
  fr := fun p o q => by
    rcases g.new p o q with z | z
    · exact e.fr p o z
    · refine .inr ?_
      cases b : G.B p with
      | none => rfl
      | some u => have := e.bh p u b; rw [z] at this; cases this
  sl := fun i s q => let ⟨x, a, b⟩ := e.sl i s q; ⟨x, a, b.gr g⟩
  ds := e.ds
end Dn

/-! Den2.lean -/
namespace Dn
open PySem PySem.Spec PyProof.Rows L2

/-- what comes of an expression: a thing, an exception of an own class (with what its __init__ stored), or nothing is told -/
inductive Res (α : Type) where
  | ok (a : α) | exc (c : Nat) (fs : Option (List D)) | err
def Res.bind {α β : Type} (r : Res α) (f : α → Res β) : Res β := match r with
  | .ok a => f a
  | .exc c fs => .exc c fs
  | .err => .err
def Res.map {α β : Type} (f : α → β) (r : Res α) : Res β := r.bind fun a => .ok (f a)
@[simp] theorem Res.bind_ok {α β : Type} (a : α) (f : α → Res β) : (Res.ok a).bind f = f a := rfl
@[simp] theorem Res.bind_exc {α β : Type} (c fs) (f : α → Res β) : (Res.exc c fs).bind f = .exc c fs := rfl
@[simp] theorem Res.bind_err {α β : Type} (f : α → Res β) : (Res.err).bind f = .err := rfl
@[simp] theorem Res.map_ok {α β : Type} (a : α) (f : α → β) : (Res.ok a).map f = .ok (f a) := rfl

/-- an exception's dict -/
def XD (Γ : Gm) (F : Hp) (c : Nat) : Option (List D) → Option Addr → Prop
  | none, d => d = none
  | some ds, d => ∃ dd vs, d = some dd ∧ F dd = some (.xd vs) ∧ vs.map (·.1) = Γ.flds c ∧ Reps Γ F ds (vs.map (·.2))
theorem XD.mono {Γ : Gm} {F F' : Hp} {c : Nat} (s : Same F F') : ∀ {fs : Option (List D)} {d : Option Addr}, XD Γ F c fs d → XD Γ F' c fs d
  | none, _, h => h
  | some ds, _, ⟨dd, vs, e, q, l, r⟩ => ⟨dd, vs, e, s _ _ q, l, r.mono s⟩

section
variable (Γ : Gm) (W : WX)
def post (σ : L2.St) (F H : Hp) {α : Type} (r : Res α) (k : α → Hp → Hp → Prop) : Prop := match r with
  | .ok a => ∀ F' H', Gr F H F' H' → k a F' H'
  | .exc c fs => ∀ F' H' d, Gr F H F' H' → XD Γ F' c fs d → W (.ref (Γ.cls c)) d σ H'
  | .err => False
/-- a new object at a: no name's own, no data yet -/
structure NewAt (G : Gd) (env : Env) (σ : L2.St) (F H : Hp) (a : Addr) (d : D) : Prop where
  fn : F a = none
  bn : G.B a = none
  top : Top Γ F H a d
  no : ∀ (i : Nat) di, env[i]? = some (.own di) → σ[i]? ≠ some (some (.ref a))
def RepT (F H : Hp) (d : D) (v : V) : Prop := Rep Γ F d v ∨ ∃ a, v = .ref a ∧ Top Γ F H a d
def kE (Q : VK) : D → Hp → Hp → Prop := fun d F' H' => ∀ v, Rep Γ F' d v → Q v H'
def kW (Q : VK) : D → Hp → Hp → Prop := fun d F' H' => ∀ v, RepT Γ F' H' d v → Q v H'
def kN (H : Hp) (Q : VK) : D → Hp → Hp → Prop := fun d F' H' => ∀ a, H a = none → F' a = none → Top Γ F' H' a d → Q (.ref a) H'
def kB (Q : Bool → Hp → Prop) : Bool → Hp → Hp → Prop := fun b _ H' => Q b H'
def kA (Q : List V → Hp → Prop) : List D → Hp → Hp → Prop := fun ds F' H' => ∀ vs, Reps Γ F' ds vs → Q vs H'
def tE (den : Env → Res D) : TE := fun σ H Q => ∃ G env F, ER Γ G env σ F H ∧ post Γ W σ F H (den env) (kE Γ Q)
def tW (den : Env → Res D) : TE := fun σ H Q => ∃ G env F, ER Γ G env σ F H ∧ post Γ W σ F H (den env) (kW Γ Q)
def tN (den : Env → Res D) : TE := fun σ H Q => ∃ G env F, ER Γ G env σ F H ∧ post Γ W σ F H (den env) (kN Γ H Q)
def tT (den : Env → Res Bool) : TT := fun σ H Q => ∃ G env F, ER Γ G env σ F H ∧ post Γ W σ F H (den env) (kB Q)
def tA (den : Env → Res (List D)) : TA := fun σ H Q => ∃ G env F, ER Γ G env σ F H ∧ post Γ W σ F H (den env) (kA Γ Q)
end

section
variable {Γ : Gm} {W : WX} {G : Gd} {env : Env} {σ : L2.St} {F F' H H' : Hp} {α β : Type}
theorem post.mono {r : Res α} {k : α → Hp → Hp → Prop} (g : Gr F H F' H') (h : post Γ W σ F H r k) : post Γ W σ F' H' r k := match r, h with
  | .ok _, h => fun F1 H1 q => h F1 H1 (g.trans q)
  | .exc _ _, h => fun F1 H1 d q => h F1 H1 d (g.trans q)
theorem post.imp {r : Res α} {k k' : α → Hp → Hp → Prop} (h : post Γ W σ F H r k) (i : ∀ a F' H', r = .ok a → Gr F H F' H' → k a F' H' → k' a F' H') : post Γ W σ F H r k' := match r, h, i with
  | .ok _, h, i => fun F1 H1 q => i _ F1 H1 rfl q (h F1 H1 q)
  | .exc _ _, h, _ => h
/-- a then b -/
theorem post.bind {r : Res α} {f : α → Res β} {k : β → Hp → Hp → Prop} (h : post Γ W σ F H (r.bind f) k) : post Γ W σ F H r (fun a F' H' => post Γ W σ F' H' (f a) k) := match r, h with
  | .ok _, h => fun F1 H1 q => h.mono q
  | .exc _ _, h => h
theorem post.ok {a : α} {k : α → Hp → Hp → Prop} (e : ER Γ G env σ F H) (h : post Γ W σ F H (Res.ok a) k) : k a F H := h F H (Gr.refl e.fh)

/-- a new object becomes data -/
theorem NewAt.freeze {a : Addr} {d : D} (e : ER Γ G env σ F H) (n : NewAt Γ G env σ F H a d) (hc : ∀ c ds, d = .obj c ds → ds.length = (Γ.flds c).length) :
    ∃ F', Same F F' ∧ (∀ p u, F' p = some u → F p = some u ∨ p = a) ∧ ER Γ G env σ F' H ∧ Rep Γ F' d (.ref a) := by
  obtain ⟨o, ho⟩ := n.top.some
  have sf : Same F (upd F a o) := fun b u q => by rw [upd_ne (ne_of_none q n.fn)]; exact q
  refine ⟨upd F a o, sf, fun p u q => ?_, ⟨e.len, fun b u q => ?_, e.bh, e.f0.trans sf, fun b u q => ?_, fun i s q => ?_, e.ds⟩, ?_⟩
  · by_cases hp : p = a
    · exact .inr hp
    · rw [upd_ne hp] at q; exact .inl q
  · by_cases hb : b = a
    · subst hb; rw [upd_same] at q; cases q; exact ho
    · rw [upd_ne hb] at q; exact e.fh _ _ q
  · by_cases hb : b = a
    · subst hb; exact .inr n.bn
    · rw [upd_ne hb] at q; exact e.fr _ _ q
  · obtain ⟨x, hx, r⟩ := e.sl i s q
    refine ⟨x, hx, ?_⟩
    cases s with
    | un => trivial
    | val d => obtain ⟨v, e1, r⟩ := r; exact ⟨v, e1, r.mono sf⟩
    | own d' =>
      obtain ⟨b, e1, f, bb, t⟩ := r
      have hb : b ≠ a := fun z => by subst z; subst e1; exact n.no i d' q hx
      exact ⟨b, e1, by rw [upd_ne hb]; exact f, bb, t.mono sf fun _ z => z⟩
  · have t := n.top
    cases d with
    | lst ds => obtain ⟨vs, e1, l, r⟩ := t; rw [e1] at ho; cases ho; rw [Rep]; exact ⟨a, vs, rfl, upd_same, l, r.mono sf⟩
    | obj c ds =>
      obtain ⟨dx, fs, e1, l, r⟩ := t; rw [e1] at ho; cases ho; rw [Rep]
      exact ⟨a, dx, fs, rfl, upd_same, by rw [l, hc c ds rfl, List.take_length], r.mono sf⟩
    | dic ks ds => obtain ⟨kvs, e1, l, z, r⟩ := t; rw [e1] at ho; cases ho; rw [Rep]; exact ⟨a, kvs, rfl, upd_same, l, z, r.mono sf⟩
    | _ => exact t.elim
theorem fresh_gr {a : Addr} {d : D} (g : Gr F H F' H') (fa : F' a = none) (ha : H a = none) (t : Top Γ F' H' a d) (hf : ∀ c ds, d = .obj c ds → ds.length = (Γ.flds c).length) :
    ∃ F2, Gr F H F2 H' ∧ Rep Γ F2 d (.ref a) := by
  obtain ⟨o, ho⟩ := t.some
  have sf : Same F' (upd F' a o) := fun b u q => by rw [upd_ne (ne_of_none q fa)]; exact q
  refine ⟨upd F' a o, ⟨g.ff.trans sf, fun b u q => ?_, g.hh, fun p u q => ?_⟩, ?_⟩
  · by_cases hb : b = a
    · subst hb; rw [upd_same] at q; cases q; exact ho
    · rw [upd_ne hb] at q; exact g.fh _ _ q
  · by_cases hp : p = a
    · subst hp; exact .inr ha
    · rw [upd_ne hp] at q; exact g.new p u q
  · cases d with
    | lst ds => obtain ⟨vs, e1, l, r⟩ := t; rw [e1] at ho; cases ho; rw [Rep]; exact ⟨a, vs, rfl, upd_same, l, r.mono sf⟩
    | obj c ds =>
      obtain ⟨dx, fs, e1, l, r⟩ := t; rw [e1] at ho; cases ho; rw [Rep]
      exact ⟨a, dx, fs, rfl, upd_same, by rw [l, hf c ds rfl, List.take_length], r.mono sf⟩
    | dic ks ds => obtain ⟨kvs, e1, l, z, r⟩ := t; rw [e1] at ho; cases ho; rw [Rep]; exact ⟨a, kvs, rfl, upd_same, l, z, r.mono sf⟩
    | _ => exact t.elim
theorem ER.newAt {a : Addr} {d : D} (e : ER Γ G env σ F H) (g : Gr F H F' H') (ha : H a = none) (fa : F' a = none) (t : Top Γ F' H' a d) : NewAt Γ G env σ F' H' a d where
  fn := fa
  bn := by
    cases q : G.B a with
    | none => rfl
    | some u => have := e.bh a u q; rw [ha] at this; cases this
  top := t
  no := fun i di q z => by
    obtain ⟨x, hx, b, e1, _, _, t'⟩ := e.sl i _ q
    rw [z] at hx; cases hx; cases e1
    obtain ⟨o, ho⟩ := t'.some
    rw [ha] at ho; cases ho
theorem RepT.gr {d : D} {v : V} (g : Gr F H F' H') : RepT Γ F H d v → RepT Γ F' H' d v
  | .inl h => .inl (h.mono g.ff)
  | .inr ⟨a, e, t⟩ => .inr ⟨a, e, t.mono g.ff fun o => g.hh a o⟩
end

/-! ### rules by a reading's weakening -/
section
variable {X : Cx} {e : Expr}
theorem PE.w {t t' : TE} (h : PE X e t) (i : ∀ σ H Q, t' σ H Q → t σ H Q) : PE X e t' := ⟨fun pins s σ H Q I q => h.run pins s σ H Q I (i σ H Q q)⟩
/-- the reading may be chosen at each state -/
theorem PE.u {t' : TE} (h : ∀ σ H Q, t' σ H Q → ∃ t, PE X e t ∧ t σ H Q) : PE X e t' := ⟨fun pins s σ H Q I q => let ⟨_, a, b⟩ := h σ H Q q; a.run pins s σ H Q I b⟩
theorem PT.w {t t' : TT} (h : PT X e t) (i : ∀ σ H Q, t' σ H Q → t σ H Q) : PT X e t' := ⟨fun pins s σ H Q I q => h.run pins s σ H Q I (i σ H Q q)⟩
theorem PA.w {es : List Expr} {t t' : TA} (h : PA X es t) (i : ∀ σ H Q, t' σ H Q → t σ H Q) : PA X es t' := ⟨fun pos pins s σ H Q I q => h.run pos pins s σ H Q I (i σ H Q q)⟩
theorem PS.w {st : Stmt} {t t' : TS} (h : PS X st t) (i : ∀ D σ H, t' D σ H → t D σ H) : PS X st t' := ⟨fun pins s σ H D I q => h.run pins s σ H D I (i D σ H q)⟩
theorem PSs.w {st : List Stmt} {t t' : TS} (h : PSs X st t) (i : ∀ D σ H, t' D σ H → t D σ H) : PSs X st t' := ⟨fun pins s σ H D I q => h.run pins s σ H D I (i D σ H q)⟩
theorem PI.w {tg : Expr} {t t' : TI} (h : PI X tg e t) (i : ∀ σ H R, t' σ H R → t σ H R) : PI X tg e t' := ⟨fun pins s σ H R I q => h.run pins s σ H R I (i σ H R q)⟩
end

/-! ### leaves -/
section
variable {X : Cx} {Γ : Gm} {W : WX} {pos : Pos}
def dVar (i : Nat) : Env → Res D := fun env => match env[i]? with
  | some (.val d) => .ok d
  | _ => .err
/-- .. of a list or dict that is the name's own, too: it is looked at here -/
def dPeek (i : Nat) : Env → Res D := fun env => match env[i]? with
  | some (.val d) => .ok d
  | some (.own d) => .ok d
  | _ => .err
def dC (d : D) : Env → Res D := fun _ => .ok d
theorem e_var {i : Nat} {x : Str} (hp : PE X (.Name x pos) (tVar i)) : PE X (.Name x pos) (tE Γ W (dVar i)) := PE.w hp fun σ H Q ⟨G, env, F, er, h⟩ => by
  unfold dVar at h
  split at h
  · rename_i d e
    obtain ⟨y, hy, v, e1, r⟩ := er.sl i _ e
    subst e1
    exact ⟨v, hy, h.ok er v r⟩
  · exact h.elim
theorem w_peek {i : Nat} {x : Str} (hp : PE X (.Name x pos) (tVar i)) : PE X (.Name x pos) (tW Γ W (dPeek i)) := PE.w hp fun σ H Q ⟨G, env, F, er, h⟩ => by
  unfold dPeek at h
  split at h
  · rename_i d e
    obtain ⟨y, hy, v, e1, r⟩ := er.sl i _ e
    subst e1
    exact ⟨v, hy, h.ok er v (.inl r)⟩
  · rename_i d e
    obtain ⟨y, hy, a, e1, _, _, r⟩ := er.sl i _ e
    subst e1
    exact ⟨_, hy, h.ok er _ (.inr ⟨a, rfl, r⟩)⟩
  · exact h.elim
/-- strong is weak -/
theorem w_e {e : Expr} {den : Env → Res D} (h : PE X e (tE Γ W den)) : PE X e (tW Γ W den) := PE.w h fun σ H Q ⟨G, env, F, er, q⟩ =>
  ⟨G, env, F, er, q.imp fun d F' H' _ _ k v r => k v (.inl r)⟩
def flat (d : D) : Bool := match d with
  | .obj _ _ => false
  | _ => true
theorem e_n {e : Expr} {den : Env → Res D} (h : PE X e (tN Γ W den)) (hf : ∀ env d, den env = .ok d → flat d = true) : PE X e (tE Γ W den) := PE.w h fun σ H Q ⟨G, env, F, er, q⟩ => by
  refine ⟨G, env, F, er, ?_⟩
  have hf := hf env
  cases z : den env with
  | err => rw [z] at q; exact q
  | exc c fs => rw [z] at q; exact q
  | ok d =>
    rw [z] at q
    intro F1 H1 g a ha fa t
    obtain ⟨F2, g2, r⟩ := fresh_gr g fa ha t fun c ds hd => by have := hf d z; rw [hd] at this; cases this
    exact q F2 H1 g2 _ r
theorem w_n {e : Expr} {den : Env → Res D} (h : PE X e (tN Γ W den)) : PE X e (tW Γ W den) := PE.w h fun σ H Q ⟨G, env, F, er, q⟩ =>
  ⟨G, env, F, er, q.imp fun d F' H' _ _ k a _ _ n => k _ (.inr ⟨a, rfl, n⟩)⟩
theorem e_c {e : Expr} {v : V} {d : D} (hp : PE X e (tC v)) (hr : ∀ F, Rep Γ F d v) : PE X e (tE Γ W (dC d)) := PE.w hp fun σ H Q ⟨G, env, F, er, h⟩ => h.ok er v (hr F)
theorem e_int {i j} : PE X (.Constant (.int i) j pos) (tE Γ W (dC (.int i))) := e_c pe_int fun F => by rw [Rep]
theorem e_bl {b j} : PE X (.Constant (.bool b) j pos) (tE Γ W (dC (.bl b))) := e_c pe_bl fun F => by rw [Rep]
theorem e_non {j} : PE X (.Constant .none j pos) (tE Γ W (dC .non)) := e_c pe_non fun F => by rw [Rep]
theorem e_str {x : Str} {j} (h : sOk x = true := by decide +kernel) : PE X (.Constant (.str x) j pos) (tE Γ W (dC (.str x))) := e_c pe_str fun F => by rw [Rep]; exact ⟨rfl, h⟩
end

/-! ### arguments -/
section
variable {X : Cx} {Γ : Gm} {W : WX} {pos : Pos} {e : Expr} {es : List Expr}
def dNil : Env → Res (List D) := fun _ => .ok []
def dCons (a : Env → Res D) (r : Env → Res (List D)) : Env → Res (List D) := fun env => (a env).bind fun d => (r env).bind fun ds => .ok (d :: ds)
theorem ER.sameOf {G : Gd} {env : Env} {σ : L2.St} {F H : Hp} (e : ER Γ G env σ F H) : Same F H := e.fh
theorem a_nil : PA X [] (tA Γ W dNil) := PA.w pa_nil fun σ H Q ⟨G, env, F, er, h⟩ => h.ok er [] .nil
theorem a_cons {da : Env → Res D} {dr : Env → Res (List D)} (ha : PE X e (tE Γ W da)) (hr : PA X es (tA Γ W dr)) (hs : starEach (e :: es) X.env = (false, eval e X.env) :: starEach es X.env := by rfl) :
    PA X (e :: es) (tA Γ W (dCons da dr)) := PA.w (pa_cons ha hr hs) fun σ H Q ⟨G, env, F, er, h⟩ => by
  refine ⟨G, env, F, er, h.bind.imp fun d F1 H1 _ g1 h1 v r1 => ⟨G, env, F1, er.gr g1, h1.bind.imp fun ds F2 H2 _ g2 h2 vs r2 => ?_⟩⟩
  exact h2.ok ((er.gr g1).gr g2) _ (.cons (r1.mono g2.ff) r2)
end
end Dn

/-! Den3.lean -/
namespace Dn
open PySem PySem.Spec PyProof.Rows L2

inductive Out where
  | nx (e : Env) | ret (d : D) | bk (e : Env) | ct (e : Env) | exc (e : Env) (c : Nat) (fs : Option (List D)) | err
section
variable (Γ : Gm) (W : WX)
def sPost (G : Gd) (Dn : Ends) (F : Hp) : Out → Prop
  | .nx e => ∀ σ' F' H', Same F F' → ER Γ G e σ' F' H' → Dn.nx σ' H'
  | .bk e => ∀ σ' F' H', Same F F' → ER Γ G e σ' F' H' → Dn.bk σ' H'
  | .ct e => ∀ σ' F' H', Same F F' → ER Γ G e σ' F' H' → Dn.ct σ' H'
  | .ret d => ∀ v e σ' F' H', Same F F' → ER Γ G e σ' F' H' → Rep Γ F' d v → Dn.rt v H'
  | .exc e c fs => ∀ σ' F' H' d, Same F F' → ER Γ G e σ' F' H' → XD Γ F' c fs d → W (.ref (Γ.cls c)) d σ' H'
  | .err => False
def tS (den : Env → Out) : TS := fun Dn σ H => ∃ G env F, ER Γ G env σ F H ∧ sPost Γ W G Dn F (den env)
end
section
variable {Γ : Gm} {W : WX} {G : Gd} {env : Env} {σ : L2.St} {F F' H H' : Hp} {Dn : Ends}
theorem sPost.mono (s : Same F F') : ∀ {o : Out}, sPost Γ W G Dn F o → sPost Γ W G Dn F' o
  | .nx _, h => fun σ' F1 H1 q e => h σ' F1 H1 (s.trans q) e
  | .bk _, h => fun σ' F1 H1 q e => h σ' F1 H1 (s.trans q) e
  | .ct _, h => fun σ' F1 H1 q e => h σ' F1 H1 (s.trans q) e
  | .ret _, h => fun v e σ' F1 H1 q er r => h v e σ' F1 H1 (s.trans q) er r
  | .exc _ _ _, h => fun σ' F1 H1 d q e x => h σ' F1 H1 d (s.trans q) e x

theorem ER.set (e : ER Γ G env σ F H) (i : Nat) {d : D} {v : V} (r : Rep Γ F d v) : ER Γ G (env.set i (.val d)) (σ.set i (some v)) F H := by
  refine ⟨by simp [e.len], e.fh, e.bh, e.f0, e.fr, fun j s q => ?_, fun j k a dj dk q1 q2 q3 q4 => ?_⟩
  · by_cases hj : i = j
    · subst hj
      have hl : i < env.length := by
        have := (List.getElem?_eq_some_iff.mp q).1
        simpa using this
      rw [List.getElem?_set_self hl] at q; cases q
      exact ⟨some v, by rw [List.getElem?_set_self (by rw [e.len]; exact hl)], v, rfl, r⟩
    · rw [List.getElem?_set_ne hj] at q
      obtain ⟨x, a, b⟩ := e.sl j s q
      exact ⟨x, by rw [List.getElem?_set_ne hj]; exact a, b⟩
  · have ne : ∀ {j dj}, (env.set i (.val d))[j]? = some (.own dj) → i ≠ j ∧ env[j]? = some (.own dj) := fun {j dj} q => by
      by_cases hj : i = j
      · subst hj
        have hl : i < env.length := by
          have := (List.getElem?_eq_some_iff.mp q).1
          simpa using this
        rw [List.getElem?_set_self hl] at q; cases q
      · rw [List.getElem?_set_ne hj] at q; exact ⟨hj, q⟩
    obtain ⟨n1, q1⟩ := ne q1
    obtain ⟨n2, q2⟩ := ne q2
    rw [List.getElem?_set_ne n1] at q3
    rw [List.getElem?_set_ne n2] at q4
    exact e.ds j k a dj dk q1 q2 q3 q4
theorem ER.setOwn (e : ER Γ G env σ F H) (i : Nat) {d : D} {a : Addr} (n : NewAt Γ G env σ F H a d) : ER Γ G (env.set i (.own d)) (σ.set i (some (.ref a))) F H := by
  refine ⟨by simp [e.len], e.fh, e.bh, e.f0, e.fr, fun j s q => ?_, fun j k b dj dk q1 q2 q3 q4 => ?_⟩
  · by_cases hj : i = j
    · subst hj
      have hl : i < env.length := by
        have := (List.getElem?_eq_some_iff.mp q).1
        simpa using this
      rw [List.getElem?_set_self hl] at q; cases q
      exact ⟨_, by rw [List.getElem?_set_self (by rw [e.len]; exact hl)], a, rfl, n.fn, n.bn, n.top⟩
    · rw [List.getElem?_set_ne hj] at q
      obtain ⟨x, a, b⟩ := e.sl j s q
      exact ⟨x, by rw [List.getElem?_set_ne hj]; exact a, b⟩
  · have hlt : ∀ {j dj}, (env.set i (.own d))[j]? = some (.own dj) → j < env.length := fun {j dj} q => by
      have := (List.getElem?_eq_some_iff.mp q).1
      simpa using this
    have h1 := hlt q1
    have h2 := hlt q2
    by_cases hj : i = j
    · by_cases hk : i = k
      · exact hj.symm.trans hk
      · subst hj
        rw [List.getElem?_set_ne hk] at q2 q4
        rw [List.getElem?_set_self (by rw [e.len]; exact h1)] at q3
        cases q3
        exact (n.no k dk q2 q4).elim
    · by_cases hk : i = k
      · subst hk
        rw [List.getElem?_set_ne hj] at q1 q3
        rw [List.getElem?_set_self (by rw [e.len]; exact h2)] at q4
        cases q4
        exact (n.no j dj q1 q3).elim
      · rw [List.getElem?_set_ne hj] at q1 q3
        rw [List.getElem?_set_ne hk] at q2 q4
        exact e.ds j k b dj dk q1 q2 q3 q4
/-- a name's value is forgotten -/
theorem ER.kill (e : ER Γ G env σ F H) (i : Nat) : ER Γ G (env.set i .un) σ F H := by
  have ne : ∀ {j : Nat} {s : Slot}, (env.set i Slot.un)[j]? = some s → s = Slot.un ∨ env[j]? = some s := fun {j s} q => by
    by_cases hj : i = j
    · subst hj
      have hl : i < env.length := by
        have := (List.getElem?_eq_some_iff.mp q).1
        simpa using this
      rw [List.getElem?_set_self hl] at q; cases q; exact .inl rfl
    · rw [List.getElem?_set_ne hj] at q; exact .inr q
  refine ⟨by simp [e.len], e.fh, e.bh, e.f0, e.fr, fun j s q => ?_, fun j k b dj dk q1 q2 q3 q4 => ?_⟩
  · rcases ne q with z | z
    · subst z
      have hl : j < σ.length := by
        have := (List.getElem?_eq_some_iff.mp q).1
        rw [e.len]; simpa using this
      exact ⟨σ[j], by simp [hl], trivial⟩
    · exact e.sl j s z
  · rcases ne q1 with z | z
    · cases z
    · rcases ne q2 with z' | z'
      · cases z'
      · exact e.ds j k b dj dk z z' q3 q4
/-- any value at a forgotten name -/
theorem ER.setUn (e : ER Γ G env σ F H) (i : Nat) (x : Option V) (h : env[i]? = some .un) : ER Γ G env (σ.set i x) F H := by
  refine ⟨by simp [e.len], e.fh, e.bh, e.f0, e.fr, fun j s q => ?_, fun j k b dj dk q1 q2 q3 q4 => ?_⟩
  · by_cases hj : i = j
    · subst hj
      rw [h] at q; cases q
      have hl : i < env.length := (List.getElem?_eq_some_iff.mp h).1
      exact ⟨x, by rw [List.getElem?_set_self (by rw [e.len]; exact hl)], trivial⟩
    · obtain ⟨y, a, b⟩ := e.sl j s q
      exact ⟨y, by rw [List.getElem?_set_ne hj]; exact a, b⟩
  · have n1 : i ≠ j := fun z => by subst z; rw [h] at q1; cases q1
    have n2 : i ≠ k := fun z => by subst z; rw [h] at q2; cases q2
    rw [List.getElem?_set_ne n1] at q3
    rw [List.getElem?_set_ne n2] at q4
    exact e.ds j k b dj dk q1 q2 q3 q4
def kills (is : List Nat) (env : Env) : Env := is.foldl (fun e i => e.set i .un) env
theorem ER.kills (is : List Nat) : ∀ {env : Env}, ER Γ G env σ F H → ER Γ G (kills is env) σ F H := by
  induction is with
  | nil => intro env e; exact e
  | cons i r ih => intro env e; exact ih (e.kill i)
/-- the own object of slot i is changed -/
theorem ER.write (e : ER Γ G env σ F H) {i : Nat} {d d' : D} {a : Addr} {o : HO} (h : env[i]? = some (.own d)) (hs : σ[i]? = some (some (.ref a))) (t : Top Γ F (upd H a o) a d') : ER Γ G (env.set i (.own d')) σ F (upd H a o) := by
  obtain ⟨x, hx, b, e1, fn, bn, top⟩ := e.sl i _ h
  rw [hs] at hx; cases hx; cases e1
  have hi : i < env.length := (List.getElem?_eq_some_iff.mp h).1
  refine ⟨by simp [e.len], fun p u q => ?_, fun p u q => ?_, e.f0, e.fr, fun j s q => ?_, fun j k b dj dk q1 q2 q3 q4 => ?_⟩
  · rw [upd_ne (ne_of_none q fn)]; exact e.fh p u q
  · rw [upd_ne (ne_of_none q bn)]; exact e.bh p u q
  · by_cases hj : i = j
    · subst hj
      rw [List.getElem?_set_self hi] at q; cases q
      exact ⟨_, hs, a, rfl, fn, bn, t⟩
    · rw [List.getElem?_set_ne hj] at q
      obtain ⟨y, hy, r⟩ := e.sl j s q
      refine ⟨y, hy, ?_⟩
      cases s with
      | un => trivial
      | val _ => exact r
      | own dj =>
        obtain ⟨b, e2, f2, b2, t2⟩ := r
        subst e2
        have hb : b ≠ a := fun z => by subst z; exact hj (e.ds i j b d dj h q hs hy)
        exact ⟨b, rfl, f2, b2, t2.mono (Same.refl _) fun u q => by rw [upd_ne hb]; exact q⟩
  · have ne : ∀ {j : Nat} {dj : D}, (env.set i (Slot.own d'))[j]? = some (Slot.own dj) → ∃ dj', env[j]? = some (Slot.own dj') := fun {j dj} q => by
      by_cases hj : i = j
      · subst hj; exact ⟨d, h⟩
      · rw [List.getElem?_set_ne hj] at q; exact ⟨dj, q⟩
    obtain ⟨_, q1⟩ := ne q1
    obtain ⟨_, q2⟩ := ne q2
    exact e.ds j k b _ _ q1 q2 q3 q4
/-- the own object of slot i becomes data -/
theorem ER.freeze (e : ER Γ G env σ F H) {i : Nat} {d : D} (h : env[i]? = some (.own d)) (hf : flat d = true) : ∃ F', Same F F' ∧ ER Γ G (env.set i (.val d)) σ F' H := by
  obtain ⟨x, hx, a, e1, fn, bn, top⟩ := e.sl i _ h
  subst e1
  have hi : i < env.length := (List.getElem?_eq_some_iff.mp h).1
  have ek := e.kill i
  have n : NewAt Γ G (env.set i .un) σ F H a d := ⟨fn, bn, top, fun j dj q z => by
    by_cases hj : i = j
    · subst hj; rw [List.getElem?_set_self hi] at q; cases q
    · rw [List.getElem?_set_ne hj] at q
      exact hj (e.ds i j a d dj h q hx z)⟩
  obtain ⟨F', s, _, e2, r⟩ := n.freeze ek fun c ds z => by rw [z] at hf; cases hf
  refine ⟨F', s, ?_⟩
  have e3 := e2.set i r
  rw [List.set_set] at e3
  have : σ.set i (some (V.ref a)) = σ := by
    apply List.ext_getElem?
    intro j
    by_cases hj : i = j
    · subst hj; rw [List.getElem?_set_self (by rw [e.len]; exact hi), hx]
    · rw [List.getElem?_set_ne hj]
  rw [this] at e3
  exact e3
end

/-! ### statements -/
section
variable {X : Cx} {Γ : Gm} {W : WX} {pos : Pos} {st : Stmt} {sts : List Stmt} {e c : Expr}
def dSkip : Env → Out := fun env => .nx env
def dSeq (a b : Env → Out) : Env → Out := fun env => match a env with
  | .nx e => b e
  | o => o
def dSet (i : Nat) (den : Env → Res D) : Env → Out := fun env => match den env with
  | .ok d => .nx (env.set i (.val d))
  | .exc c fs => .exc env c fs
  | .err => .err
def dOwn (i : Nat) (den : Env → Res D) : Env → Out := fun env => match den env with
  | .ok d => .nx (env.set i (.own d))
  | .exc c fs => .exc env c fs
  | .err => .err
def dRet (den : Env → Res D) : Env → Out := fun env => match den env with
  | .ok d => .ret d
  | .exc c fs => .exc env c fs
  | .err => .err
def dDo (den : Env → Res D) : Env → Out := fun env => match den env with
  | .ok _ => .nx env
  | .exc c fs => .exc env c fs
  | .err => .err
def dIf (t : Env → Res Bool) (a b : Env → Out) : Env → Out := fun env => match t env with
  | .ok true => a env
  | .ok false => b env
  | .exc c fs => .exc env c fs
  | .err => .err
/-- ahead of a statement: what is known is turned -/
def dPre (g : Env → Env) (s : Env → Out) : Env → Out := fun env => s (g env)
theorem ss_nil : PSs X [] (tS Γ W dSkip) := PSs.w pss_nil fun D σ H ⟨G, env, F, er, h⟩ => h σ F H (Same.refl _) er
theorem ss_cons {a b : Env → Out} (h1 : PS X st (tS Γ W a)) (h2 : PSs X sts (tS Γ W b)) : PSs X (st :: sts) (tS Γ W (dSeq a b)) := PSs.w (pss_cons h1 h2) fun D σ H ⟨G, env, F, er, h⟩ => by
  refine ⟨G, env, F, er, ?_⟩
  unfold dSeq at h
  cases z : a env with
  | nx e => rw [z] at h; exact fun σ' F' H' s e' => ⟨G, e, F', e', h.mono s⟩
  | ret d => rw [z] at h; exact h
  | bk e => rw [z] at h; exact h
  | ct e => rw [z] at h; exact h
  | exc e c fs => rw [z] at h; exact h
  | err => rw [z] at h; exact h
theorem ss_one {a : Env → Out} (h1 : PS X st (tS Γ W a)) : PSs X [st] (tS Γ W a) := pss_one h1
theorem s_pass : PS X (.Pass pos) (tS Γ W dSkip) := PS.w ps_pass fun D σ H ⟨G, env, F, er, h⟩ => h σ F H (Same.refl _) er
theorem s_doc {x j pos'} : PS X (.Expr (.Constant (.str x) j pos) pos') (tS Γ W dSkip) := PS.w ps_doc fun D σ H ⟨G, env, F, er, h⟩ => h σ F H (Same.refl _) er
theorem s_break : PS X (.Break pos) (tS Γ W Out.bk) := PS.w ps_break fun D σ H ⟨G, env, F, er, h⟩ => h σ F H (Same.refl _) er
theorem s_continue : PS X (.Continue pos) (tS Γ W Out.ct) := PS.w ps_continue fun D σ H ⟨G, env, F, er, h⟩ => h σ F H (Same.refl _) er
theorem xpost {G : Gd} {env : Env} {σ : L2.St} {F H : Hp} {r : Res D} {Dd : Ends} {f : D → Out} (k : D → Hp → Hp → Prop) (er : ER Γ G env σ F H)
    (h : sPost Γ W G Dd F (match r with | .ok d => f d | .exc c fs => .exc env c fs | .err => .err)) (i : ∀ d F' H', Gr F H F' H' → ER Γ G env σ F' H' → sPost Γ W G Dd F' (f d) → k d F' H') : post Γ W σ F H r k := by
  cases r with
  | ok d => exact fun F' H' g => i d F' H' g (er.gr g) (h.mono g.ff)
  | exc c fs => exact fun F' H' d g x => h σ F' H' d g.ff (er.gr g) x
  | err => exact h.elim
theorem s_ret {den : Env → Res D} (h : PE X e (tE Γ W den)) : PS X (.Return (some e) pos) (tS Γ W (dRet den)) := PS.w (ps_ret h) fun D σ H ⟨G, env, F, er, q⟩ => by
  refine ⟨G, env, F, er, xpost (f := Out.ret) _ er q fun d F' H' s e' q v r => q v env σ F' H' (Same.refl _) e' r⟩
theorem s_retN : PS X (.Return none pos) (tS Γ W (dRet (dC .non))) := PS.w ps_retN fun D σ H ⟨G, env, F, er, q⟩ => q .non env σ F H (Same.refl _) er (by rw [Rep])
theorem s_do {den : Env → Res D} (h : PE X e (tW Γ W den)) (hs : swapsWith e none pos.line X.env = pure false := by rfl) : PS X (.Expr e pos) (tS Γ W (dDo den)) := PS.w (ps_expr h hs) fun D σ H ⟨G, env, F, er, q⟩ => by
  refine ⟨G, env, F, er, xpost (f := fun _ => Out.nx env) _ er q fun d F' H' s e' q v r => q σ F' H' (Same.refl _) e'⟩
theorem s_set {den : Env → Res D} {i : Nat} (h : ∀ te, PE X e te → PS X st (tAsg te (gName i))) (he : PE X e (tE Γ W den)) : PS X st (tS Γ W (dSet i den)) := PS.w (h _ he) fun D σ H ⟨G, env, F, er, q⟩ => by
  refine ⟨G, env, F, er, xpost (f := fun d => Out.nx (env.set i (.val d))) _ er q fun d F' H' s e' q v r => q _ F' H' (Same.refl _) (e'.set i r)⟩
theorem s_own {den : Env → Res D} {i : Nat} (h : ∀ te, PE X e te → PS X st (tAsg te (gName i))) (he : PE X e (tN Γ W den)) : PS X st (tS Γ W (dOwn i den)) := PS.w (h _ he) fun D σ H ⟨G, env, F, er, q⟩ => by
  refine ⟨G, env, F, er, xpost (f := fun d => Out.nx (env.set i (.own d))) _ er q fun d F' H' g e' q a ha fa t => q _ F' H' (Same.refl _) (e'.setOwn i (er.newAt g ha fa t))⟩
theorem s_if {t : Env → Res Bool} {a b : List Stmt} {da db : Env → Out} (ht : PT X c (tT Γ W t)) (ha : PSs X a (tS Γ W da)) (hb : PSs X b (tS Γ W db)) : PS X (.If c a b pos) (tS Γ W (dIf t da db)) := PS.w (ps_if ht ha hb) fun D σ H ⟨G, env, F, er, q⟩ => by
  refine ⟨G, env, F, er, ?_⟩
  unfold dIf at q
  cases z : t env with
  | ok k =>
    rw [z] at q
    intro F' H' g
    cases k with
    | true => exact ⟨G, env, F', er.gr g, q.mono g.ff⟩
    | false => exact ⟨G, env, F', er.gr g, q.mono g.ff⟩
  | exc c fs => rw [z] at q; exact fun F' H' d g x => q σ F' H' d g.ff (er.gr g) x
  | err => rw [z] at q; exact q.elim
/-- what is known of names may be weakened -/
def Ghost (Γ : Gm) (g : Env → Env) : Prop := ∀ {G env σ F H}, ER Γ G env σ F H → ∃ F', Same F F' ∧ ER Γ G (g env) σ F' H
theorem s_pre {g : Env → Env} {d : Env → Out} (hg : Ghost Γ g) (h : PS X st (tS Γ W d)) : PS X st (tS Γ W (dPre g d)) := PS.w h fun D σ H ⟨G, env, F, er, q⟩ =>
  let ⟨F', s, e⟩ := hg er; ⟨G, _, F', e, q.mono s⟩
theorem ss_pre {g : Env → Env} {d : Env → Out} (hg : Ghost Γ g) (h : PSs X sts (tS Γ W d)) : PSs X sts (tS Γ W (dPre g d)) := PSs.w h fun D σ H ⟨G, env, F, er, q⟩ =>
  let ⟨F', s, e⟩ := hg er; ⟨G, _, F', e, q.mono s⟩
theorem Ghost.kills (is : List Nat) : Ghost Γ (Dn.kills is) := fun er => ⟨_, Same.refl _, er.kills is⟩
def frz (i : Nat) (env : Env) : Env := match env[i]? with
  | some (.own d) => if flat d = true then env.set i (.val d) else env
  | _ => env
theorem Ghost.frz (i : Nat) : Ghost Γ (Dn.frz i) := fun {G env σ F H} er => by
  unfold Dn.frz
  split
  · rename_i d h
    split
    · rename_i hf
      exact er.freeze h hf
    · exact ⟨_, Same.refl _, er⟩
  · exact ⟨_, Same.refl _, er⟩
def frzs (is : List Nat) (env : Env) : Env := is.foldl (fun e i => frz i e) env
theorem Ghost.frzs (is : List Nat) : Ghost Γ (Dn.frzs is) := by
  unfold Ghost
  induction is with
  | nil => intro G env σ F H er; exact ⟨_, Same.refl _, er⟩
  | cons i r ih =>
    intro G env σ F H er
    obtain ⟨F1, s1, e1⟩ := Ghost.frz i er
    obtain ⟨F2, s2, e2⟩ := ih e1
    exact ⟨F2, s1.trans s2, e2⟩
end
end Dn

/-! Den4.lean -/
namespace Dn
open PySem PySem.Spec PyProof.Rows L2

/-! ### operators by values -/
def op? {α : Type} : Option α → Res α
  | some d => .ok d
  | none => .err
@[simp] theorem op?_some {α : Type} (a : α) : op? (some a) = Res.ok a := rfl
@[simp] theorem op?_none {α : Type} : op? (none : Option α) = Res.err := rfl
def dBin (f : D → D → Option D) (a b : Env → Res D) : Env → Res D := fun env => (a env).bind fun x => (b env).bind fun y => op? (f x y)
def dUn (f : D → Option D) (a : Env → Res D) : Env → Res D := fun env => (a env).bind fun x => op? (f x)
/-- what a rule by values must give: a thing -/
def OpS (Γ : Gm) (r : R2) (f : D → D → Option D) : Prop := ∀ {F H : Hp} {x y : D} {v w : V} {Q : VK} {d : D}, Same F H → RepT Γ F H x v → RepT Γ F H y w → f x y = some d →
  (∀ u F' H', Gr F H F' H' → Rep Γ F' d u → Q u H') → r v w H Q
/-- .. a new object -/
def OpN (Γ : Gm) (r : R2) (f : D → D → Option D) : Prop := ∀ {F H : Hp} {x y : D} {v w : V} {Q : VK} {d : D}, Same F H → RepT Γ F H x v → RepT Γ F H y w → f x y = some d →
  (∀ p F' H', Gr F H F' H' → F' p = none → H p = none → Top Γ F' H' p d → Q (.ref p) H') → r v w H Q
section
variable {X : Cx} {Γ : Gm} {W : WX} {pos : Pos} {a b : Expr}
theorem OpN.s {r : R2} {f : D → D → Option D} (h : OpN Γ r f) (hf : ∀ x y d, f x y = some d → flat d = true) : OpS Γ r f := fun {F H x y v w Q d} s rx ry e k => by
  refine h s rx ry e fun p F' H' g fp hp t => ?_
  obtain ⟨F2, g2, r2⟩ := fresh_gr g fp hp t fun c ds hd => by have := hf x y d e; rw [hd] at this; cases this
  exact k _ F2 H' g2 r2
theorem bin_s {r : R2} {f : D → D → Option D} {da db : Env → Res D} {Q : VK} {σ : L2.St} {H : Hp} (hr : OpS Γ r f)
    (h : tE Γ W (dBin f da db) σ H Q) : tOp r (tW Γ W da) (tW Γ W db) σ H Q := by
  obtain ⟨G, env, F, er, h⟩ := h
  refine ⟨G, env, F, er, h.bind.imp fun x F1 H1 _ g1 h1 v r1 => ⟨G, env, F1, er.gr g1, h1.bind.imp fun y F2 H2 _ g2 h2 w r2 => ?_⟩⟩
  have e2 := (er.gr g1).gr g2
  cases z : f x y with
  | none => rw [z] at h2; exact h2.elim
  | some d =>
    rw [z] at h2
    exact hr e2.fh (r1.gr g2) r2 z fun u F' H' g r => h2 F' H' g u r
theorem bin_n {r : R2} {f : D → D → Option D} {da db : Env → Res D} {Q : VK} {σ : L2.St} {H : Hp} (hr : OpN Γ r f)
    (h : tN Γ W (dBin f da db) σ H Q) : tOp r (tW Γ W da) (tW Γ W db) σ H Q := by
  obtain ⟨G, env, F, er, h⟩ := h
  refine ⟨G, env, F, er, h.bind.imp fun x F1 H1 _ g1 h1 v r1 => ⟨G, env, F1, er.gr g1, h1.bind.imp fun y F2 H2 _ g2 h2 w r2 => ?_⟩⟩
  have e2 := (er.gr g1).gr g2
  cases z : f x y with
  | none => rw [z] at h2; exact h2.elim
  | some d =>
    rw [z] at h2
    refine hr e2.fh (r1.gr g2) r2 z fun p F' H' g fp hp t => h2 F' H' g p ?_ fp t
    cases q : H p with
    | none => rfl
    | some o => have := (g1.trans g2).hh p o q; rw [hp] at this; cases this
theorem e_bin {op : Operator} {r : R2} {f : D → D → Option D} {da db : Env → Res D} (ho : OpR X (binaryOp op) r) (hr : OpS Γ r f) (ha : PE X a (tW Γ W da)) (hb : PE X b (tW Γ W db)) : PE X (.BinOp a op b pos) (tE Γ W (dBin f da db)) :=
  PE.w (pe_op ho ha hb) fun _ _ _ h => bin_s hr h
theorem n_bin {op : Operator} {r : R2} {f : D → D → Option D} {da db : Env → Res D} (ho : OpR X (binaryOp op) r) (hr : OpN Γ r f) (ha : PE X a (tW Γ W da)) (hb : PE X b (tW Γ W db)) : PE X (.BinOp a op b pos) (tN Γ W (dBin f da db)) :=
  PE.w (pe_op ho ha hb) fun _ _ _ h => bin_n hr h
theorem e_cmp {op : CmpOp} {r : R2} {f : D → D → Option D} {da db : Env → Res D} (ho : OpR X (compareOp op) r) (hr : OpS Γ r f) (ha : PE X a (tW Γ W da)) (hb : PE X b (tW Γ W db)) (hm : behindInMarks op b = false := by rfl) : PE X (.Compare a [op] [b] pos) (tE Γ W (dBin f da db)) :=
  PE.w (pe_cmpR ho ha hb hm) fun _ _ _ h => bin_s hr h
theorem OpS.or {r r' : R2} {f g : D → D → Option D} (h : OpS Γ r f) (h' : OpS Γ r' g) : OpS Γ (fun x y H Q => r x y H Q ∨ r' x y H Q) (fun x y => (f x y).or (g x y)) := fun {F H x y v w Q d} s rx ry e k => by
  have e : (f x y).or (g x y) = some d := e
  cases z : f x y with
  | some d' => rw [z] at e; cases e; exact .inl (h s rx ry z k)
  | none => rw [z] at e; exact .inr (h' s rx ry e k)

/-! ### what stands for what -/
theorem RepT.int {F H : Hp} {i : Int} {v : V} : RepT Γ F H (.int i) v → v = .int i
  | .inl h => by rw [Rep] at h; exact h
  | .inr ⟨_, _, t⟩ => t.elim
theorem RepT.bl {F H : Hp} {i : Bool} {v : V} : RepT Γ F H (.bl i) v → v = .bl i
  | .inl h => by rw [Rep] at h; exact h
  | .inr ⟨_, _, t⟩ => t.elim
theorem RepT.non {F H : Hp} {v : V} : RepT Γ F H .non v → v = .non
  | .inl h => by rw [Rep] at h; exact h
  | .inr ⟨_, _, t⟩ => t.elim
theorem RepT.str {F H : Hp} {i : Str} {v : V} : RepT Γ F H (.str i) v → v = .str i ∧ sOk i = true
  | .inl h => by rw [Rep] at h; exact h
  | .inr ⟨_, _, t⟩ => t.elim
theorem RepT.lst {F H : Hp} {ds : List D} {v : V} (s : Same F H) : RepT Γ F H (.lst ds) v → ∃ a vs, v = .ref a ∧ H a = some (.lst vs) ∧ ds.length ≤ sizeLine ∧ Reps Γ F ds vs
  | .inl h => by rw [Rep] at h; obtain ⟨a, vs, e, q, l, r⟩ := h; exact ⟨a, vs, e, s _ _ q, l, r⟩
  | .inr ⟨a, e, vs, q, l, r⟩ => ⟨a, vs, e, q, l, r⟩
theorem RepT.tup {F H : Hp} {ds : List D} {v : V} (s : Same F H) : RepT Γ F H (.tup ds) v → ∃ a vs, v = .ref a ∧ SqT Γ.K H a vs ∧ ds.length ≤ sizeLine ∧ Reps Γ F ds vs
  | .inl h => by rw [Rep] at h; obtain ⟨a, vs, e, q, l, r⟩ := h; exact ⟨a, vs, e, Same.sqt s q, l, r⟩
  | .inr ⟨_, _, t⟩ => t.elim
theorem RepT.scr {F H : Hp} {ns : List Int} {v : V} (s : Same F H) : RepT Γ F H (.scr ns) v → ∃ a, v = .ref a ∧ ns.length ≤ sizeLine ∧ SqL Γ.K H a (ns.map V.int)
  | .inl h => by rw [Rep] at h; obtain ⟨a, e, l, q, _⟩ := h; exact ⟨a, e, l, s.seq q⟩
  | .inr ⟨_, _, t⟩ => t.elim
theorem reps_ints {F : Hp} : ∀ {ns : List Int}, Reps Γ F (ns.map D.int) (ns.map V.int)
  | [] => .nil
  | n :: ns => .cons (by rw [Rep]) reps_ints

theorem sOk_len {s : Str} (h : sOk s = true) : s.length ≤ sizeLine := by
  unfold sOk at h; rw [Bool.and_eq_true] at h; exact of_decide_eq_true h.1
theorem sOk_ok {s : Str} (h : sOk s = true) : PyData.strOk s = true := by
  unfold sOk at h; rw [Bool.and_eq_true] at h; exact h.2
theorem sOk_mk {s : Str} (h1 : s.length ≤ sizeLine) (h2 : ∀ c ∈ s.cps.toList, c < 0x110000) : sOk s = true := by
  unfold sOk; rw [Bool.and_eq_true]; refine ⟨decide_eq_true h1, ?_⟩
  unfold PyData.strOk
  rw [Array.all_eq_true]
  intro i hi
  exact decide_eq_true (h2 _ (by simp))
theorem sOk_cps {s : Str} (h : sOk s = true) : ∀ c ∈ s.cps.toList, c < 0x110000 := by
  have := sOk_ok h
  unfold PyData.strOk at this
  rw [Array.all_eq_true] at this
  intro c hc
  obtain ⟨i, hi, e⟩ := List.getElem_of_mem hc
  have z := this i (by simpa using hi)
  rw [← e]
  simpa using z
theorem sOk_append {s t : Str} (h : sOk s = true) (k : sOk t = true) (l : s.length + t.length ≤ sizeLine) : sOk (s ++ t) = true := by
  have e : (s ++ t).cps = s.cps ++ t.cps := rfl
  refine sOk_mk (by show (s ++ t).cps.size ≤ _; rw [e, Array.size_append]; exact l) fun c hc => ?_
  rw [e, Array.toList_append, List.mem_append] at hc
  rcases hc with z | z
  · exact sOk_cps h c z
  · exact sOk_cps k c z

/-- a new list laid at p -/
theorem gr_new {F H : Hp} {p : Addr} {o : HO} (s : Same F H) (hp : H p = none) : Gr F H F (upd H p o) ∧ F p = none := by
  have fp : F p = none := by
    cases q : F p with
    | none => rfl
    | some u => have := s p u q; rw [hp] at this; cases this
  have hh : Same H (upd H p o) := fun b u q => by rw [upd_ne (ne_of_none q hp)]; exact q
  exact ⟨⟨Same.refl _, s.trans hh, hh, fun _ _ q => .inl q⟩, fp⟩

theorem fresh_tup {F H : Hp} {p : Addr} {ds : List D} {vs : List V} (s : Same F H) (hp : H p = none) (r : Reps Γ F ds vs) (hl : ds.length ≤ sizeLine) :
    ∃ F2, Gr F H F2 (upd H p (.tup vs)) ∧ Rep Γ F2 (.tup ds) (.ref p) := by
  obtain ⟨g, fp⟩ := gr_new (o := .tup vs) s hp
  have sf : Same F (upd F p (.tup vs)) := fun b u q => by rw [upd_ne (ne_of_none q fp)]; exact q
  refine ⟨upd F p (.tup vs), ⟨sf, fun b u q => ?_, g.hh, fun b u q => ?_⟩, ?_⟩
  · by_cases hb : b = p
    · subst hb; rw [upd_same] at q ⊢; exact q
    · rw [upd_ne hb] at q ⊢; exact s _ _ q
  · by_cases hb : b = p
    · subst hb; exact .inr hp
    · rw [upd_ne hb] at q; exact .inl q
  · rw [Rep]; exact ⟨p, vs, rfl, SqT.of upd_same, hl, r.mono sf⟩

/-! ### + - * // % ** -/
def dAdd : D → D → Option D
  | .int i, .int j => some (.int (i + j))
  | .str s, .str t => if s.length + t.length ≤ sizeLine then some (.str (s ++ t)) else none
  | .lst xs, .lst ys => if xs.length + ys.length ≤ sizeLine then some (.lst (xs ++ ys)) else none
  | .tup xs, .tup ys => if xs ≠ [] ∧ xs.length + ys.length ≤ sizeLine then some (.tup (xs ++ ys)) else none
  | _, _ => none
def dCat : D → D → Option D
  | .lst xs, .lst ys => if xs.length + ys.length ≤ sizeLine then some (.lst (xs ++ ys)) else none
  | _, _ => none
theorem ops_cat : OpN Γ rCat dCat := fun {F H x y v w Q d} s rx ry e k => by
  unfold dCat at e
  split at e
  · rename_i xs ys
    obtain ⟨a, vs, rfl, ha, la, ra⟩ := rx.lst s
    obtain ⟨b, ws, rfl, hb, lb, rb⟩ := ry.lst s
    split at e
    · rename_i hl
      cases e
      refine ⟨a, b, vs, ws, rfl, rfl, ha, hb, by rw [ra.length, rb.length]; exact hl, fun p hp => ?_⟩
      obtain ⟨g, fp⟩ := gr_new (o := .lst (vs ++ ws)) s hp
      exact k p F _ g fp hp ⟨vs ++ ws, upd_same, by rw [List.length_append]; exact hl, ra.append rb⟩
    · cases e
  · cases e
theorem add_rule (hk : Γ.K = X.K) : OpR X (binaryOp .Add) (fun x y H Q => rI0 (fun i j => .int (i + j)) x y H Q ∨ (fun x y H Q => (∃ i j, x = V.str i ∧ y = V.str j ∧ i.length + j.length ≤ sizeLine ∧ Q (.str (i ++ j)) H)) x y H Q ∨ rCat x y H Q ∨ rCatT Γ.K x y H Q) := by
  rw [hk]; exact op_add.or (op_add_str.or (op_cat.or op_catT))
theorem add_ops : OpS Γ (fun x y H Q => rI0 (fun i j => .int (i + j)) x y H Q ∨ (fun x y H Q => (∃ i j, x = V.str i ∧ y = V.str j ∧ i.length + j.length ≤ sizeLine ∧ Q (.str (i ++ j)) H)) x y H Q ∨ rCat x y H Q ∨ rCatT Γ.K x y H Q) dAdd := fun {F H x y v w Q d} s rx ry e k => by
  unfold dAdd at e
  split at e
  · rename_i i j; cases e
    exact .inl ⟨i, j, rx.int, ry.int, k _ F H (Gr.refl s) (by rw [Rep])⟩
  · rename_i i j
    split at e
    · rename_i hl; cases e
      obtain ⟨e1, o1⟩ := rx.str
      obtain ⟨e2, o2⟩ := ry.str
      exact .inr (.inl ⟨i, j, e1, e2, hl, k _ F H (Gr.refl s) (by rw [Rep]; exact ⟨rfl, sOk_append o1 o2 hl⟩)⟩)
    · cases e
  · rename_i xs ys
    refine .inr (.inr (.inl ?_))
    exact (OpN.s ops_cat fun x y d h => by unfold dCat at h; split at h <;> (try split at h) <;> cases h <;> rfl) s rx ry (show dCat (.lst xs) (.lst ys) = some d from e) k
  · rename_i xs ys
    split at e
    · rename_i hl; cases e
      obtain ⟨a, vs, rfl, ha, la, ra⟩ := rx.tup s
      obtain ⟨b, ws, rfl, hb, lb, rb⟩ := ry.tup s
      refine .inr (.inr (.inr ⟨a, b, vs, ws, rfl, rfl, ha, hb, fun z => ?_, by rw [ra.length, rb.length]; exact hl.2, fun z => ?_, fun z p hp => ?_⟩))
      · have := ra.length; rw [z] at this; exact hl.1 (List.length_eq_zero_iff.mp this.symm)
      · have h0 := rb.length; rw [z] at h0
        have e0 : ys = [] := List.length_eq_zero_iff.mp h0.symm
        subst e0
        rw [List.append_nil]  at k
        rcases rx with h | ⟨a', e', t⟩
        · exact k _ F H (Gr.refl s) h
        · exact t.elim
      · skip
        obtain ⟨F2, g2, r2⟩ := fresh_tup s hp (ra.append rb) (by rw [List.length_append]; exact hl.2)
        exact k _ F2 _ g2 r2
    · cases e
  · cases e
end
end Dn

/-! Den5.lean -/
namespace Dn
open PySem PySem.Spec PyProof.Rows L2

section
variable {X : Cx} {Γ : Gm} {W : WX} {pos : Pos} {a b c : Expr} {rest : List Expr}
theorem rep_int {F : Hp} {i : Int} : Rep Γ F (.int i) (.int i) := by rw [Rep]
theorem rep_bl {F : Hp} {i : Bool} : Rep Γ F (.bl i) (.bl i) := by rw [Rep]
/-- two ints -/
def dII (C : Int → Int → Bool) (g : Int → Int → Int) : D → D → Option D
  | .int i, .int j => if C i j = true then some (.int (g i j)) else none
  | _, _ => none
theorem ops_II {C : Int → Int → Bool} {C' : Int → Int → Prop} {g : Int → Int → Int} (h : ∀ i j, C i j = true → C' i j) : OpS Γ (rI C' fun i j => .int (g i j)) (dII C g) := fun {F H x y v w Q d} s rx ry e k => by
  unfold dII at e
  split at e
  · rename_i i j
    split at e
    · rename_i hc; cases e
      exact ⟨i, j, rx.int, ry.int, h i j hc, k _ F H (Gr.refl s) rep_int⟩
    · cases e
  · cases e
def dSub : D → D → Option D
  | .int i, .int j => some (.int (i - j))
  | _, _ => none
theorem ops_sub : OpS Γ (rI0 fun i j => .int (i - j)) dSub := fun {F H x y v w Q d} s rx ry e k => by
  unfold dSub at e
  split at e
  · rename_i i j; cases e
    exact ⟨i, j, rx.int, ry.int, k _ F H (Gr.refl s) rep_int⟩
  · cases e
def cMul (i j : Int) : Bool := decide (-(2 ^ 64) < i ∧ i < 2 ^ 64) || decide (-(2 ^ 64) < j ∧ j < 2 ^ 64)
def cDiv (i j : Int) : Bool := decide (0 < j) && decide (j.natAbs.log2 < 9000)
def cMod (i j : Int) : Bool := decide (0 < j)
def cPow (i j : Int) : Bool := decide (0 ≤ j) && decide (j ≤ 1000000) && decide (i.natAbs < 2 ^ 64)
/-- a list times an int -/
def dRep : D → D → Option D
  | .lst xs, .int k => if -(2 ^ 63) ≤ k ∧ k < 2 ^ 63 ∧ xs.length * k.toNat ≤ sizeLine then some (.lst (List.replicate k.toNat xs).flatten) else none
  | _, _ => none
theorem Reps.rep {F : Hp} {ds : List D} {vs : List V} (r : Reps Γ F ds vs) : ∀ k : Nat, Reps Γ F (List.replicate k ds).flatten (List.replicate k vs).flatten
  | 0 => by simp; exact .nil
  | k + 1 => by rw [List.replicate_succ, List.replicate_succ, List.flatten_cons, List.flatten_cons]; exact r.append (Reps.rep r k)
theorem ops_rep : OpN Γ rRep dRep := fun {F H x y v w Q d} s rx ry e k => by
  unfold dRep at e
  split at e
  · rename_i xs j
    obtain ⟨a, vs, rfl, ha, la, ra⟩ := rx.lst s
    split at e
    · rename_i hl
      cases e
      refine ⟨a, j, vs, rfl, ry.int, ha, hl.1, hl.2.1, by rw [ra.length]; exact hl.2.2, fun p hp => ?_⟩
      obtain ⟨g, fp⟩ := gr_new (o := .lst (List.replicate j.toNat vs).flatten) s hp
      exact k p F _ g fp hp ⟨_, upd_same, by rw [List.length_flatten, List.map_replicate, List.sum_replicate_nat, Nat.mul_comm]; exact hl.2.2, ra.rep _⟩
    · cases e
  · cases e
def dMulI : D → D → Option D := dII cMul fun i j => i * j
def dMul : D → D → Option D := fun x y => (dMulI x y).or (dRep x y)
def dFdiv : D → D → Option D := dII cDiv fun i j => i / j
def dMod : D → D → Option D := dII cMod fun i j => i % j
def dPow : D → D → Option D := dII cPow fun i j => i ^ j.toNat
variable {da db dc : Env → Res D}
theorem e_add (hk : Γ.K = X.K) (ha : PE X a (tW Γ W da)) (hb : PE X b (tW Γ W db)) : PE X (.BinOp a .Add b pos) (tE Γ W (dBin dAdd da db)) := e_bin (add_rule hk) add_ops ha hb
theorem n_cat (ha : PE X a (tW Γ W da)) (hb : PE X b (tW Γ W db)) : PE X (.BinOp a .Add b pos) (tN Γ W (dBin dCat da db)) := n_bin op_cat ops_cat ha hb
theorem e_sub (ha : PE X a (tW Γ W da)) (hb : PE X b (tW Γ W db)) : PE X (.BinOp a .Sub b pos) (tE Γ W (dBin dSub da db)) := e_bin op_sub ops_sub ha hb
theorem e_mul (ha : PE X a (tW Γ W da)) (hb : PE X b (tW Γ W db)) : PE X (.BinOp a .Mult b pos) (tE Γ W (dBin dMul da db)) :=
  e_bin (op_mul.or op_rep) (OpS.or (ops_II fun i j h => by
    unfold cMul at h; rw [Bool.or_eq_true] at h
    rcases h with h | h
    · exact .inl (of_decide_eq_true h)
    · exact .inr (of_decide_eq_true h)) (OpN.s ops_rep fun x y d h => by unfold dRep at h; split at h <;> (try split at h) <;> cases h <;> rfl)) ha hb
theorem n_rep (ha : PE X a (tW Γ W da)) (hb : PE X b (tW Γ W db)) : PE X (.BinOp a .Mult b pos) (tN Γ W (dBin dRep da db)) := n_bin op_rep ops_rep ha hb
theorem e_fdiv (ha : PE X a (tW Γ W da)) (hb : PE X b (tW Γ W db)) : PE X (.BinOp a .FloorDiv b pos) (tE Γ W (dBin dFdiv da db)) := e_bin op_fdivW (ops_II fun i j h => by
  unfold cDiv at h; rw [Bool.and_eq_true] at h; exact ⟨of_decide_eq_true h.1, of_decide_eq_true h.2⟩) ha hb
theorem e_mod (ha : PE X a (tW Γ W da)) (hb : PE X b (tW Γ W db)) : PE X (.BinOp a .Mod b pos) (tE Γ W (dBin dMod da db)) := e_bin op_mod (ops_II fun i j h => of_decide_eq_true h) ha hb
theorem e_pow (ha : PE X a (tW Γ W da)) (hb : PE X b (tW Γ W db)) : PE X (.BinOp a .Pow b pos) (tE Γ W (dBin dPow da db)) := e_bin op_pow (ops_II fun i j h => by
  unfold cPow at h; rw [Bool.and_eq_true, Bool.and_eq_true] at h; exact ⟨of_decide_eq_true h.1.1, of_decide_eq_true h.1.2, of_decide_eq_true h.2⟩) ha hb
def dNeg : D → Option D
  | .int i => some (.int (-i))
  | _ => none
theorem e_neg (ha : PE X a (tE Γ W da)) : PE X (.UnaryOp .USub a pos) (tE Γ W (dUn dNeg da)) := PE.w (pe_un un_neg ha) fun σ H Q ⟨G, env, F, er, h⟩ => by
  refine ⟨G, env, F, er, h.bind.imp fun x F1 H1 _ g1 h1 v r1 => ?_⟩
  cases x <;> first | exact h1.elim | skip
  exact ⟨_, (by rw [Rep] at r1; exact r1), h1.ok (er.gr g1) _ rep_int⟩

/-! ### comparisons -/
def dCI (p : Int → Int → Bool) : D → D → Option D
  | .int i, .int j => some (.bl (p i j))
  | _, _ => none
theorem ops_CI {p : Int → Int → Bool} : OpS Γ (rI0 fun i j => .bl (p i j)) (dCI p) := fun {F H x y v w Q d} s rx ry e k => by
  unfold dCI at e
  split at e
  · rename_i i j; cases e
    exact ⟨i, j, rx.int, ry.int, k _ F H (Gr.refl s) rep_bl⟩
  · cases e
def dLt : D → D → Option D := dCI fun i j => decide (i < j)
def dLe : D → D → Option D := dCI fun i j => decide (i ≤ j)
def dGt : D → D → Option D := dCI fun i j => decide (j < i)
def dGe : D → D → Option D := dCI fun i j => decide (j ≤ i)
theorem e_lt (ha : PE X a (tW Γ W da)) (hb : PE X b (tW Γ W db)) : PE X (.Compare a [.Lt] [b] pos) (tE Γ W (dBin dLt da db)) := e_cmp op_lt ops_CI ha hb (nomark _)
theorem e_le (ha : PE X a (tW Γ W da)) (hb : PE X b (tW Γ W db)) : PE X (.Compare a [.LtE] [b] pos) (tE Γ W (dBin dLe da db)) := e_cmp op_le ops_CI ha hb (nomark _)
theorem e_gt (ha : PE X a (tW Γ W da)) (hb : PE X b (tW Γ W db)) : PE X (.Compare a [.Gt] [b] pos) (tE Γ W (dBin dGt da db)) := e_cmp op_gt ops_CI ha hb (nomark _)
theorem e_ge (ha : PE X a (tW Γ W da)) (hb : PE X b (tW Γ W db)) : PE X (.Compare a [.GtE] [b] pos) (tE Γ W (dBin dGe da db)) := e_cmp op_ge ops_CI ha hb (nomark _)

/-! the library's data -/
mutual
def D.py : D → Option PyData
  | .non => some .none
  | .bl b => some (.bool b)
  | .int i => some (.int i)
  | .str s => some (.str s)
  | .scr ns => some (.list (ns.map PyData.int))
  | .lst ds => (pys ds).map PyData.list
  | .tup ds => (pys ds).map PyData.tuple
  | .ty _ => none
  | .cl _ => none
  | .obj _ _ => none
  | .dic _ _ => none
def pys : List D → Option (List PyData)
  | [] => some []
  | d :: ds => d.py.bind fun p => (pys ds).map fun ps => p :: ps
end
theorem lay_ints : ∀ ns : List Int, PyData.canLayAll0 (ns.map PyData.int) = true
  | [] => by simp [PyData.canLayAll0]
  | n :: ns => by rw [List.map_cons, PyData.canLayAll0, lay_ints ns, PyData.canLay0]; rfl
theorem dp_ints {K : PySem.W.Frag} {H : Hp} : ∀ ns : List Int, DpAll K H (ns.map V.int) (ns.map PyData.int)
  | [] => .nil
  | n :: ns => .cons (.int n) (dp_ints ns)
mutual
theorem dp_of {F H : Hp} (s : Same F H) : ∀ (d : D) (v : V) (p : PyData), Rep Γ F d v → d.py = some p → Dp Γ.K H v p ∧ p.canLay0 = true
  | .non, v, p, h, e => by rw [Rep] at h; simp only [D.py] at e; cases e; subst h; exact ⟨.non, by simp [PyData.canLay0]⟩
  | .bl b, v, p, h, e => by rw [Rep] at h; simp only [D.py] at e; cases e; subst h; exact ⟨.bl b, by simp [PyData.canLay0]⟩
  | .int b, v, p, h, e => by rw [Rep] at h; simp only [D.py] at e; cases e; subst h; exact ⟨.int b, by simp [PyData.canLay0]⟩
  | .str b, v, p, h, e => by rw [Rep] at h; simp only [D.py] at e; cases e; obtain ⟨h, o⟩ := h; subst h; exact ⟨.str b, by simpa [PyData.canLay0] using sOk_ok o⟩
  | .scr ns, v, p, h, e => by
    rw [Rep] at h; simp only [D.py] at e; cases e
    obtain ⟨a, rfl, l, q, _⟩ := h
    exact ⟨.lst (s.seq q) (dp_ints ns), by rw [PyData.canLay0]; exact lay_ints ns⟩
  | .lst ds, v, p, h, e => by
    rw [Rep] at h; simp only [D.py, Option.map_eq_some_iff] at e
    obtain ⟨ps, e, rfl⟩ := e
    obtain ⟨a, vs, rfl, q, l, r⟩ := h
    obtain ⟨h1, h2⟩ := dps_of s ds vs ps r e
    exact ⟨.lst (SqL.of (s _ _ q)) h1, by simpa [PyData.canLay0] using h2⟩
  | .tup ds, v, p, h, e => by
    rw [Rep] at h; simp only [D.py, Option.map_eq_some_iff] at e
    obtain ⟨ps, e, rfl⟩ := e
    obtain ⟨a, vs, rfl, q, l, r⟩ := h
    obtain ⟨h1, h2⟩ := dps_of s ds vs ps r e
    exact ⟨.tup (Same.sqt s q) h1, by simpa [PyData.canLay0] using h2⟩
  | .ty _, _, _, _, e => by simp [D.py] at e
  | .cl _, _, _, _, e => by simp [D.py] at e
  | .obj _ _, _, _, _, e => by simp [D.py] at e
  | .dic _ _, _, _, _, e => by simp [D.py] at e
theorem dps_of {F H : Hp} (s : Same F H) : ∀ (ds : List D) (vs : List V) (ps : List PyData), Reps Γ F ds vs → pys ds = some ps → DpAll Γ.K H vs ps ∧ PyData.canLayAll0 ps = true
  | [], vs, ps, h, e => by rw [h.nil_inv]; simp only [pys] at e; cases e; exact ⟨.nil, by simp [PyData.canLayAll0]⟩
  | d :: ds, vs, ps, h, e => by
    obtain ⟨v, r, rfl, h1, h2⟩ := h.cons_inv
    simp only [pys, Option.bind_eq_some_iff, Option.map_eq_some_iff] at e
    obtain ⟨p, e1, ps', e2, rfl⟩ := e
    obtain ⟨a1, a2⟩ := dp_of s d v p h1 e1
    obtain ⟨b1, b2⟩ := dps_of s ds r ps' h2 e2
    exact ⟨.cons a1 b1, by simp [PyData.canLayAll0, a2, b2]⟩
end
theorem dp_ofT {F H : Hp} (s : Same F H) {d : D} {v : V} {p : PyData} (h : RepT Γ F H d v) (e : d.py = some p) : Dp Γ.K H v p ∧ p.canLay0 = true := by
  rcases h with h | ⟨a, rfl, t⟩
  · exact dp_of s d v p h e
  · cases d <;> first | exact t.elim | skip
    · rename_i ds
      simp only [D.py, Option.map_eq_some_iff] at e
      obtain ⟨ps, e, rfl⟩ := e
      obtain ⟨vs, q, l, r⟩ := t
      obtain ⟨h1, h2⟩ := dps_of s ds vs ps r e
      exact ⟨.lst (SqL.of q) h1, by simpa [PyData.canLay0] using h2⟩
    · simp [D.py] at e
    · simp [D.py] at e
def rEqM (K : PySem.W.Frag) : R2 := fun x y H Q => ∃ d e, Dp K H x d ∧ Dp K H y e ∧ d.canLay0 = true ∧ e.canLay0 = true ∧ min d.depth e.depth ≤ 60 ∧ Q (.bl (PyData.eqv d e)) H
def rNeM (K : PySem.W.Frag) : R2 := fun x y H Q => ∃ d e, Dp K H x d ∧ Dp K H y e ∧ d.canLay0 = true ∧ e.canLay0 = true ∧ min d.depth e.depth ≤ 60 ∧ Q (.bl (!PyData.eqv d e)) H
theorem op_eqM (hu : X.A.units + 64 < cLine) : OpR X (compareOp .Eq) (rEqM X.K) := by
  intro pins s σ H x y v u Q I rx ry h
  obtain ⟨d, e, hd, he, sd, se, hm, q⟩ := h
  obtain ⟨as, r1⟩ := Dp.reads I d x v hd rx
  obtain ⟨bs, r2⟩ := Dp.reads I e y u he ry
  exact SeqAt.compareEq_reads r1 r2 sd se (by omega) ⟨.bl _, H, I, rfl, q⟩
theorem op_neM (hu : X.A.units + 64 < cLine) : OpR X (compareOp .NotEq) (rNeM X.K) := by
  intro pins s σ H x y v u Q I rx ry h
  obtain ⟨d, e, hd, he, sd, se, hm, q⟩ := h
  obtain ⟨as, r1⟩ := Dp.reads I d x v hd rx
  obtain ⟨bs, r2⟩ := Dp.reads I e y u he ry
  exact SeqAt.compareNe_reads r1 r2 sd se (by omega) ⟨.bl _, H, I, rfl, q⟩
def dEqB (x y : D) : Option Bool := x.py.bind fun p => y.py.bind fun q => if min p.depth q.depth ≤ 60 then some (PyData.eqv p q) else none
def dEq (x y : D) : Option D := (dEqB x y).map D.bl
def dNe (x y : D) : Option D := (dEqB x y).map fun k => D.bl (!k)
theorem dEqB_some {x y : D} {k : Bool} (h : dEqB x y = some k) : ∃ p q, x.py = some p ∧ y.py = some q ∧ min p.depth q.depth ≤ 60 ∧ PyData.eqv p q = k := by
  simp only [dEqB, Option.bind_eq_some_iff] at h
  obtain ⟨p, e1, q, e2, h⟩ := h
  split at h
  · rename_i hm; cases h; exact ⟨p, q, e1, e2, hm, rfl⟩
  · cases h
theorem ops_eq : OpS Γ (rEqM Γ.K) dEq := fun {F H x y v w Q d} s rx ry e k => by
  simp only [dEq, Option.map_eq_some_iff] at e
  obtain ⟨b, e, rfl⟩ := e
  obtain ⟨p, q, e1, e2, hm, rfl⟩ := dEqB_some e
  obtain ⟨a1, a2⟩ := dp_ofT s rx e1
  obtain ⟨b1, b2⟩ := dp_ofT s ry e2
  exact ⟨p, q, a1, b1, a2, b2, hm, k _ F H (Gr.refl s) rep_bl⟩
theorem ops_ne : OpS Γ (rNeM Γ.K) dNe := fun {F H x y v w Q d} s rx ry e k => by
  simp only [dNe, Option.map_eq_some_iff] at e
  obtain ⟨b, e, rfl⟩ := e
  obtain ⟨p, q, e1, e2, hm, rfl⟩ := dEqB_some e
  obtain ⟨a1, a2⟩ := dp_ofT s rx e1
  obtain ⟨b1, b2⟩ := dp_ofT s ry e2
  exact ⟨p, q, a1, b1, a2, b2, hm, k _ F H (Gr.refl s) rep_bl⟩
theorem e_eq (hk : Γ.K = X.K) (hu : X.A.units + 64 < cLine) (ha : PE X a (tW Γ W da)) (hb : PE X b (tW Γ W db)) : PE X (.Compare a [.Eq] [b] pos) (tE Γ W (dBin dEq da db)) := e_cmp (r := rEqM Γ.K) (by rw [hk]; exact op_eqM hu) ops_eq ha hb (nomark _)
theorem e_ne (hk : Γ.K = X.K) (hu : X.A.units + 64 < cLine) (ha : PE X a (tW Γ W da)) (hb : PE X b (tW Γ W db)) : PE X (.Compare a [.NotEq] [b] pos) (tE Γ W (dBin dNe da db)) := e_cmp (r := rNeM Γ.K) (by rw [hk]; exact op_neM hu) ops_ne ha hb (nomark _)
/-- is, of None or a truth -/
def D.isNon : D → Bool
  | .non => true
  | _ => false
def D.isBl (k : Bool) : D → Bool
  | .bl j => j == k
  | _ => false
theorem RepT.isNon {F H : Hp} : ∀ {d : D} {v : V}, RepT Γ F H d v → decide (v = .non) = d.isNon
  | d, v, .inr ⟨a, e, t⟩ => by subst e; cases d <;> first | exact t.elim | exact decide_eq_false (fun h => by cases h)
  | d, v, .inl h => by
    cases d <;> rw [Rep] at h <;> first
      | (subst h; rfl)
      | (obtain ⟨a, rfl, _⟩ := h; rfl)
      | (obtain ⟨a, _, rfl, _⟩ := h; rfl)
      | (obtain ⟨a, _, _, rfl, _⟩ := h; rfl)
      | (obtain ⟨rfl, _⟩ := h; rfl)
theorem RepT.isBl {F H : Hp} {k : Bool} : ∀ {d : D} {v : V}, RepT Γ F H d v → decide (v = .bl k) = d.isBl k
  | d, v, .inr ⟨a, e, t⟩ => by subst e; cases d <;> first | exact t.elim | exact decide_eq_false (fun h => by cases h)
  | d, v, .inl h => by
    cases d <;> rw [Rep] at h <;> first
      | (subst h; simp [D.isBl]; done)
      | (subst h; rename_i j; cases j <;> cases k <;> rfl)
      | (obtain ⟨a, rfl, _⟩ := h; rfl)
      | (obtain ⟨a, _, rfl, _⟩ := h; rfl)
      | (obtain ⟨a, _, _, rfl, _⟩ := h; rfl)
      | (obtain ⟨rfl, _⟩ := h; rfl)
theorem op_isC : OpR X (compareOp .Is) (fun x y H Q => ∃ k, y = .bl k ∧ Q (.bl (decide (x = .bl k))) H) := by
  intro pins s σ H x y v u Q I rx ry h
  obtain ⟨k, rfl, q⟩ := h
  cases (show u = Value.bool k from ry)
  cases x with
  | non => cases (show v = Value.none from rx); exact wpAny_is_plain rfl ⟨.bl _, H, I, rfl, q⟩
  | bl j => cases (show v = Value.bool j from rx); exact wpAny_is_plain rfl ⟨.bl _, H, I, by show Value.bool _ = Value.bool _; cases j <;> cases k <;> rfl, q⟩
  | int i => obtain ⟨t, rfl⟩ := rx; exact wpAny_is_plain rfl ⟨.bl _, H, I, rfl, q⟩
  | str i => obtain ⟨t, rfl⟩ := rx; exact wpAny_is_plain rfl ⟨.bl _, H, I, rfl, q⟩
  | byt i => obtain ⟨t, rfl⟩ := rx; exact wpAny_is_plain rfl ⟨.bl _, H, I, rfl, q⟩
  | flt i => obtain ⟨t, rfl⟩ := rx; exact wpAny_is_plain rfl ⟨.bl _, H, I, rfl, q⟩
  | ref i => cases (show v = Value.ref i from rx); exact wpAny_is_plain rfl ⟨.bl _, H, I, rfl, q⟩
  | ty i => cases (show v = Value.type i from rx); exact wpAny_is_plain rfl ⟨.bl _, H, I, rfl, q⟩
theorem op_notC : OpR X (compareOp .IsNot) (fun x y H Q => ∃ k, y = .bl k ∧ Q (.bl (!decide (x = .bl k))) H) := by
  intro pins s σ H x y v u Q I rx ry h
  obtain ⟨k, rfl, q⟩ := h
  cases (show u = Value.bool k from ry)
  cases x with
  | non => cases (show v = Value.none from rx); exact wpAny_isNot_plain rfl ⟨.bl _, H, I, rfl, q⟩
  | bl j => cases (show v = Value.bool j from rx); exact wpAny_isNot_plain rfl ⟨.bl _, H, I, by show Value.bool _ = Value.bool _; cases j <;> cases k <;> rfl, q⟩
  | int i => obtain ⟨t, rfl⟩ := rx; exact wpAny_isNot_plain rfl ⟨.bl _, H, I, rfl, q⟩
  | str i => obtain ⟨t, rfl⟩ := rx; exact wpAny_isNot_plain rfl ⟨.bl _, H, I, rfl, q⟩
  | byt i => obtain ⟨t, rfl⟩ := rx; exact wpAny_isNot_plain rfl ⟨.bl _, H, I, rfl, q⟩
  | flt i => obtain ⟨t, rfl⟩ := rx; exact wpAny_isNot_plain rfl ⟨.bl _, H, I, rfl, q⟩
  | ref i => cases (show v = Value.ref i from rx); exact wpAny_isNot_plain rfl ⟨.bl _, H, I, rfl, q⟩
  | ty i => cases (show v = Value.type i from rx); exact wpAny_isNot_plain rfl ⟨.bl _, H, I, rfl, q⟩
def dIs : D → D → Option D
  | x, .bl k => some (.bl (x.isBl k))
  | x, .non => some (.bl x.isNon)
  | _, _ => none
def dIsNot : D → D → Option D
  | x, .bl k => some (.bl (!x.isBl k))
  | x, .non => some (.bl (!x.isNon))
  | _, _ => none
theorem e_is (ha : PE X a (tW Γ W da)) (hb : PE X b (tW Γ W db)) : PE X (.Compare a [.Is] [b] pos) (tE Γ W (dBin dIs da db)) := e_cmp (op_isC.or op_isN) (fun {F H x y v w Q d} s rx ry e k => by
  unfold dIs at e
  split at e
  · rename_i j; cases e
    exact .inl ⟨j, ry.bl, by rw [rx.isBl]; exact k _ F H (Gr.refl s) rep_bl⟩
  · cases e
    exact .inr ⟨ry.non, by rw [rx.isNon]; exact k _ F H (Gr.refl s) rep_bl⟩
  · cases e) ha hb (nomark _)
theorem e_isnot (ha : PE X a (tW Γ W da)) (hb : PE X b (tW Γ W db)) : PE X (.Compare a [.IsNot] [b] pos) (tE Γ W (dBin dIsNot da db)) := e_cmp (op_notC.or op_notN) (fun {F H x y v w Q d} s rx ry e k => by
  unfold dIsNot at e
  split at e
  · rename_i j; cases e
    exact .inl ⟨j, ry.bl, by rw [rx.isBl]; exact k _ F H (Gr.refl s) rep_bl⟩
  · cases e
    exact .inr ⟨ry.non, by rw [rx.isNon]; exact k _ F H (Gr.refl s) rep_bl⟩
  · cases e) ha hb (nomark _)
end
end Dn

/-! Den6.lean -/
namespace Dn
open PySem PySem.Spec PyProof.Rows L2

/-! ### tests -/
section
variable {X : Cx} {Γ : Gm} {W : WX} {pos : Pos} {a b c : Expr} {rest : List Expr} {da db dc : Env → Res D} {ta tb : Env → Res Bool}
def asB : D → Res Bool
  | .bl k => .ok k
  | _ => .err
def dT (den : Env → Res D) : Env → Res Bool := fun env => (den env).bind asB
/-- a bool comparison as a test -/
theorem t_cmp {op : CmpOp} {r : R2} {f : D → D → Option D} (ho : OpR X (compareOp op) r) (hr : OpS Γ r f) (ha : PE X a (tW Γ W da)) (hb : PE X b (tW Γ W db)) (hm : behindInMarks op b = false) : PT X (.Compare a [op] [b] pos) (tT Γ W (dT (dBin f da db))) :=
  PT.w (pt_cmpR ho ha hb hm) fun σ H Q ⟨G, env, F, er, h⟩ => by
  refine bin_s (f := f) hr ⟨G, env, F, er, h.bind.imp fun x F1 H1 z0 g1 h1 v r1 => ?_⟩
  cases x <;> first | exact h1.elim | skip
  rw [Rep] at r1
  exact ⟨_, r1, h1.ok (er.gr g1)⟩
theorem t_lt (ha : PE X a (tW Γ W da)) (hb : PE X b (tW Γ W db)) : PT X (.Compare a [.Lt] [b] pos) (tT Γ W (dT (dBin dLt da db))) := t_cmp op_lt ops_CI ha hb (nomark _)
theorem t_le (ha : PE X a (tW Γ W da)) (hb : PE X b (tW Γ W db)) : PT X (.Compare a [.LtE] [b] pos) (tT Γ W (dT (dBin dLe da db))) := t_cmp op_le ops_CI ha hb (nomark _)
theorem t_gt (ha : PE X a (tW Γ W da)) (hb : PE X b (tW Γ W db)) : PT X (.Compare a [.Gt] [b] pos) (tT Γ W (dT (dBin dGt da db))) := t_cmp op_gt ops_CI ha hb (nomark _)
theorem t_ge (ha : PE X a (tW Γ W da)) (hb : PE X b (tW Γ W db)) : PT X (.Compare a [.GtE] [b] pos) (tT Γ W (dT (dBin dGe da db))) := t_cmp op_ge ops_CI ha hb (nomark _)
theorem t_eq (hk : Γ.K = X.K) (hu : X.A.units + 64 < cLine) (ha : PE X a (tW Γ W da)) (hb : PE X b (tW Γ W db)) : PT X (.Compare a [.Eq] [b] pos) (tT Γ W (dT (dBin dEq da db))) := t_cmp (r := rEqM Γ.K) (by rw [hk]; exact op_eqM hu) ops_eq ha hb (nomark _)
theorem t_ne (hk : Γ.K = X.K) (hu : X.A.units + 64 < cLine) (ha : PE X a (tW Γ W da)) (hb : PE X b (tW Γ W db)) : PT X (.Compare a [.NotEq] [b] pos) (tT Γ W (dT (dBin dNe da db))) := t_cmp (r := rNeM Γ.K) (by rw [hk]; exact op_neM hu) ops_ne ha hb (nomark _)
theorem ops_is : OpS Γ (fun x y H Q => (fun x y H Q => ∃ k, y = V.bl k ∧ Q (.bl (decide (x = .bl k))) H) x y H Q ∨ (fun x y H Q => y = V.non ∧ Q (.bl (decide (x = .non))) H) x y H Q) dIs := fun {F H x y v w Q d} s rx ry e k => by
  unfold dIs at e
  split at e
  · rename_i j; cases e
    exact .inl ⟨j, ry.bl, by rw [rx.isBl]; exact k _ F H (Gr.refl s) rep_bl⟩
  · cases e
    exact .inr ⟨ry.non, by rw [rx.isNon]; exact k _ F H (Gr.refl s) rep_bl⟩
  · cases e
theorem ops_isnot : OpS Γ (fun x y H Q => (fun x y H Q => ∃ k, y = V.bl k ∧ Q (.bl (!decide (x = .bl k))) H) x y H Q ∨ (fun x y H Q => y = V.non ∧ Q (.bl (!decide (x = .non))) H) x y H Q) dIsNot := fun {F H x y v w Q d} s rx ry e k => by
  unfold dIsNot at e
  split at e
  · rename_i j; cases e
    exact .inl ⟨j, ry.bl, by rw [rx.isBl]; exact k _ F H (Gr.refl s) rep_bl⟩
  · cases e
    exact .inr ⟨ry.non, by rw [rx.isNon]; exact k _ F H (Gr.refl s) rep_bl⟩
  · cases e
theorem t_is (ha : PE X a (tW Γ W da)) (hb : PE X b (tW Γ W db)) : PT X (.Compare a [.Is] [b] pos) (tT Γ W (dT (dBin dIs da db))) := t_cmp (op_isC.or op_isN) ops_is ha hb (nomark _)
theorem t_isnot (ha : PE X a (tW Γ W da)) (hb : PE X b (tW Γ W db)) : PT X (.Compare a [.IsNot] [b] pos) (tT Γ W (dT (dBin dIsNot da db))) := t_cmp (op_notC.or op_notN) ops_isnot ha hb (nomark _)
/-- truth -/
def tru : D → Option Bool
  | .non => some false
  | .bl b => some b
  | .int i => some (i != 0)
  | .str s => some ((s.length : Int) != 0)
  | .lst ds => some (!ds.isEmpty)
  | .scr ns => some (!ns.isEmpty)
  | .tup ds => some (!ds.isEmpty)
  | _ => none
def dTru (den : Env → Res D) : Env → Res Bool := fun env => (den env).bind fun d => op? (tru d)
theorem isEmpty_reps {F : Hp} {ds : List D} {vs : List V} (r : Reps Γ F ds vs) : ds.isEmpty = vs.isEmpty := by
  have := r.length
  cases ds <;> cases vs <;> simp_all
theorem t_tru (hk : Γ.K = X.K) (ha : PE X a (tW Γ W da)) (he : ∀ whole, isTrue a X.env whole = (do let v ← whole; standAt a.pos; holding [v] (truthy v)) := by intro _; rfl) : PT X a (tT Γ W (dTru da)) :=
  PT.w (pt_truth ha he) fun σ H Q ⟨G, env, F, er, h⟩ => by
  refine ⟨G, env, F, er, h.bind.imp fun x F1 H1 z0 g1 h1 v r1 => ?_⟩
  have er1 := er.gr g1
  have s1 := er1.fh
  cases x with
  | non => refine ⟨false, ?_, h1.ok er1⟩; rw [r1.non]; exact rfl
  | bl k => refine ⟨k, ?_, h1.ok er1⟩; rw [r1.bl]; exact rfl
  | int i => refine ⟨i != 0, ?_, h1.ok er1⟩; rw [r1.int]; exact rfl
  | str s => refine ⟨_, ?_, h1.ok er1⟩; obtain ⟨e, o⟩ := r1.str; rw [e]; exact ⟨sOk_len o, rfl⟩
  | lst ds =>
    obtain ⟨p, vs, rfl, q, l, r⟩ := r1.lst s1
    exact ⟨_, .inl ⟨vs, by rw [← hk]; exact SqL.of q, by rw [isEmpty_reps r]⟩, h1.ok er1⟩
  | scr ns =>
    obtain ⟨p, rfl, l, q⟩ := r1.scr s1
    exact ⟨_, .inl ⟨_, by rw [← hk]; exact q, by cases ns <;> rfl⟩, h1.ok er1⟩
  | tup ds =>
    obtain ⟨p, vs, rfl, q, l, r⟩ := r1.tup s1
    exact ⟨_, .inr (.inl ⟨vs, by rw [← hk]; exact q, by rw [isEmpty_reps r]⟩), h1.ok er1⟩
  | _ => exact h1.elim
def dAnd (a b : Env → Res Bool) : Env → Res Bool := fun env => (a env).bind fun k => match k with | true => b env | false => .ok false
def dOr (a b : Env → Res Bool) : Env → Res Bool := fun env => (a env).bind fun k => match k with | true => .ok true | false => b env
def dNot (a : Env → Res Bool) : Env → Res Bool := fun env => (a env).bind fun k => .ok (!k)
theorem PW.w {e : Expr} {t t' : TT} (h : PW X e t) (i : ∀ σ H Q, t' σ H Q → t σ H Q) : PW X e t' := ⟨fun wh pins s σ H Q I q => h.run wh pins s σ H Q I (i σ H Q q)⟩
theorem t_and1 (ha : PT X a (tT Γ W ta)) : PW X (.BoolOp .And [a] pos) (tT Γ W ta) := pw_and1 ha
theorem t_or1 (ha : PT X a (tT Γ W ta)) : PW X (.BoolOp .Or [a] pos) (tT Γ W ta) := pw_or1 ha
theorem t_and (ha : PT X a (tT Γ W ta)) (hb : PW X (.BoolOp .And (b :: rest) pos) (tT Γ W tb)) : PW X (.BoolOp .And (a :: b :: rest) pos) (tT Γ W (dAnd ta tb)) := PW.w (pw_and ha hb) fun σ H Q ⟨G, env, F, er, h⟩ => by
  refine ⟨G, env, F, er, h.bind.imp fun k F1 H1 _ g1 h1 => ?_⟩
  show ite _ _ _
  cases k with
  | true => rw [if_pos rfl]; exact ⟨G, env, F1, er.gr g1, h1⟩
  | false => rw [if_neg Bool.false_ne_true]; exact h1.ok (er.gr g1)
theorem t_or (ha : PT X a (tT Γ W ta)) (hb : PW X (.BoolOp .Or (b :: rest) pos) (tT Γ W tb)) : PW X (.BoolOp .Or (a :: b :: rest) pos) (tT Γ W (dOr ta tb)) := PW.w (pw_or ha hb) fun σ H Q ⟨G, env, F, er, h⟩ => by
  refine ⟨G, env, F, er, h.bind.imp fun k F1 H1 _ g1 h1 => ?_⟩
  show ite _ _ _
  cases k with
  | true => rw [if_pos rfl]; exact h1.ok (er.gr g1)
  | false => rw [if_neg Bool.false_ne_true]; exact ⟨G, env, F1, er.gr g1, h1⟩
theorem t_not (ha : PT X a (tT Γ W ta)) : PT X (.UnaryOp .Not a pos) (tT Γ W (dNot ta)) := PT.w (pt_not ha) fun σ H Q ⟨G, env, F, er, h⟩ =>
  ⟨G, env, F, er, h.bind.imp fun k F1 H1 _ g1 h1 => post.ok (W := W) (er.gr g1) h1⟩
/-- and, or, not as values -/
def dAndV (a b : Env → Res D) : Env → Res D := fun env => (a env).bind fun x => match x with | .bl true => b env | .bl false => .ok (.bl false) | _ => .err
def dOrV (a b : Env → Res D) : Env → Res D := fun env => (a env).bind fun x => match x with | .bl true => .ok (.bl true) | .bl false => b env | _ => .err
def dNotV (a : Env → Res D) : Env → Res D := fun env => (a env).bind fun x => match x with | .bl k => .ok (.bl (!k)) | _ => .err
theorem e_one {op} (h : PE X a (tE Γ W da)) : PE X (.BoolOp op [a] pos) (tE Γ W da) := pe_one h
theorem e_and (ha : PE X a (tE Γ W da)) (hb : PE X (.BoolOp .And (b :: rest) pos) (tE Γ W db)) : PE X (.BoolOp .And (a :: b :: rest) pos) (tE Γ W (dAndV da db)) := PE.w (pe_and ha hb) fun σ H Q ⟨G, env, F, er, h⟩ => by
  refine ⟨G, env, F, er, h.bind.imp fun x F1 H1 z0 g1 h1 v r1 => ?_⟩
  cases x <;> first | exact h1.elim | skip
  rename_i k
  rw [Rep] at r1
  refine ⟨k, r1, ?_⟩
  show ite _ _ _
  cases k with
  | true => rw [if_pos rfl]; exact ⟨G, env, F1, er.gr g1, h1⟩
  | false => rw [if_neg Bool.false_ne_true]; exact h1.ok (er.gr g1) _ rep_bl
theorem e_or (ha : PE X a (tE Γ W da)) (hb : PE X (.BoolOp .Or (b :: rest) pos) (tE Γ W db)) : PE X (.BoolOp .Or (a :: b :: rest) pos) (tE Γ W (dOrV da db)) := PE.w (pe_or ha hb) fun σ H Q ⟨G, env, F, er, h⟩ => by
  refine ⟨G, env, F, er, h.bind.imp fun x F1 H1 z0 g1 h1 v r1 => ?_⟩
  cases x <;> first | exact h1.elim | skip
  rename_i k
  rw [Rep] at r1
  refine ⟨k, r1, ?_⟩
  show ite _ _ _
  cases k with
  | true => rw [if_pos rfl]; exact h1.ok (er.gr g1) _ rep_bl
  | false => rw [if_neg Bool.false_ne_true]; exact ⟨G, env, F1, er.gr g1, h1⟩
theorem e_not (ha : PE X a (tE Γ W da)) : PE X (.UnaryOp .Not a pos) (tE Γ W (dNotV da)) := PE.w (pe_not ha) fun σ H Q ⟨G, env, F, er, h⟩ => by
  refine ⟨G, env, F, er, h.bind.imp fun x F1 H1 z0 g1 h1 v r1 => ?_⟩
  cases x <;> first | exact h1.elim | skip
  rename_i k
  rw [Rep] at r1
  exact ⟨k, r1, h1.ok (er.gr g1) _ rep_bl⟩
def dIfE (t : Env → Res Bool) (a b : Env → Res D) : Env → Res D := fun env => (t env).bind fun k => match k with | true => a env | false => b env
theorem e_if (hc : PT X c (tT Γ W ta)) (ha : PE X a (tE Γ W da)) (hb : PE X b (tE Γ W db)) : PE X (.IfExp c a b pos) (tE Γ W (dIfE ta da db)) := PE.w (pe_ifExp hc ha hb) fun σ H Q ⟨G, env, F, er, h⟩ => by
  refine ⟨G, env, F, er, h.bind.imp fun k F1 H1 _ g1 h1 => ?_⟩
  show ite _ _ _
  cases k with
  | true => rw [if_pos rfl]; exact ⟨G, env, F1, er.gr g1, h1⟩
  | false => rw [if_neg Bool.false_ne_true]; exact ⟨G, env, F1, er.gr g1, h1⟩

/-! ### displays -/
variable {es : List Expr} {dl : Env → Res (List D)}
def dLst (l : Env → Res (List D)) : Env → Res D := fun env => (l env).bind fun ds => if ds.length ≤ sizeLine then .ok (.lst ds) else .err
def dTup (l : Env → Res (List D)) : Env → Res D := fun env => (l env).bind fun ds => if ds.length ≤ sizeLine then .ok (.tup ds) else .err
theorem gr_none {F H F1 H1 : Hp} {p : Addr} (g : Gr F H F1 H1) (hp : H1 p = none) : H p = none := by
  cases q : H p with
  | none => rfl
  | some o => have := g.hh p o q; rw [hp] at this; cases this
theorem n_lst (h : PA X es (tA Γ W dl)) : PE X (.List es pos) (tN Γ W (dLst dl)) := PE.w (pe_lst h) fun σ H Q ⟨G, env, F, er, h⟩ => by
  refine ⟨G, env, F, er, h.bind.imp fun ds F1 H1 _ g1 h1 vs r1 => ?_⟩
  split at h1
  · rename_i hl
    refine ⟨by rw [r1.length]; exact hl, fun p hp => ?_⟩
    obtain ⟨g, fp⟩ := gr_new (o := .lst vs) (er.gr g1).fh hp
    exact h1 F1 _ g p (gr_none g1 hp) fp ⟨vs, upd_same, hl, r1⟩
  · exact h1.elim
theorem flat_lst {dl : Env → Res (List D)} : ∀ env d, dLst dl env = .ok d → flat d = true := fun env d h => by
  unfold dLst at h
  cases z : dl env with
  | ok ds => rw [z] at h; simp only [Res.bind_ok] at h; split at h <;> cases h; rfl
  | exc c fs => rw [z] at h; cases h
  | err => rw [z] at h; cases h
theorem e_lst (h : PA X es (tA Γ W dl)) : PE X (.List es pos) (tE Γ W (dLst dl)) := e_n (n_lst h) flat_lst
theorem e_tup {k : Nat} (h : PA X es (tA Γ W dl)) : PE X (.Tuple es k pos) (tE Γ W (dTup dl)) := PE.w (pe_tup h) fun σ H Q ⟨G, env, F, er, h⟩ => by
  refine ⟨G, env, F, er, h.bind.imp fun ds F1 H1 _ g1 h1 vs r1 => ?_⟩
  split at h1
  · rename_i hl
    refine ⟨by rw [r1.length]; exact hl, fun p hp => ?_⟩
    obtain ⟨F2, g2, r2⟩ := fresh_tup (er.gr g1).fh hp r1 hl
    exact h1 F2 _ g2 _ r2
  · exact h1.elim

/-! ### x[i] -/
def at? (ds : List D) (i : Int) : Option D := atI ds i
theorem atI_reps {F : Hp} {ds : List D} {vs : List V} {i : Int} {d : D} (r : Reps Γ F ds vs) (h : atI ds i = some d) : ∃ v, atI vs i = some v ∧ Rep Γ F d v := by
  unfold atI at h ⊢
  rw [r.length]
  cases z : ixN ds.length i with
  | none => rw [z] at h; cases h
  | some j =>
    rw [z] at h
    obtain ⟨v, a, b⟩ := r.get (i := j) h
    exact ⟨v, a, b⟩
def dIxV : D → D → Option D
  | .lst ds, .int i => atI ds i
  | .tup ds, .int i => atI ds i
  | .scr ns, .int i => (atI ns i).map D.int
  | .str s, .int i => (atI s.cps.toList i).map fun c => .str ⟨#[c]⟩
  | _, _ => none
theorem atI_map {α β : Type} (f : α → β) (xs : List α) (i : Int) : atI (xs.map f) i = (atI xs i).map f := by
  unfold atI
  rw [List.length_map]
  cases ixN xs.length i with
  | none => rfl
  | some j => simp
theorem ops_ix : OpS Γ (rIx Γ.K) dIxV := fun {F H x y v w Q d} s rx ry e k => by
  unfold dIxV at e
  split at e
  · rename_i ds i
    obtain ⟨a, vs, rfl, q, l, r⟩ := rx.lst s
    obtain ⟨u, hu, ru⟩ := atI_reps r e
    exact .inl ⟨a, vs, i, u, rfl, ry.int, SqL.of q, hu, k _ F H (Gr.refl s) ru⟩
  · rename_i ds i
    obtain ⟨a, vs, rfl, q, l, r⟩ := rx.tup s
    obtain ⟨u, hu, ru⟩ := atI_reps r e
    exact .inr (.inl ⟨a, vs, i, u, rfl, ry.int, q, hu, k _ F H (Gr.refl s) ru⟩)
  · rename_i ns i
    obtain ⟨a, rfl, l, q⟩ := rx.scr s
    simp only [Option.map_eq_some_iff] at e
    obtain ⟨n, e, rfl⟩ := e
    exact .inl ⟨a, _, i, .int n, rfl, ry.int, q, by rw [atI_map, e]; rfl, k _ F H (Gr.refl s) rep_int⟩
  · rename_i z i
    obtain ⟨e1, o⟩ := rx.str
    simp only [Option.map_eq_some_iff] at e
    obtain ⟨c, e, rfl⟩ := e
    refine .inr (.inr ⟨z, i, c, e1, ry.int, sOk_len o, e, k _ F H (Gr.refl s) ?_⟩)
    rw [Rep]
    refine ⟨rfl, sOk_mk (by show 1 ≤ sizeLine; decide) fun x hx => ?_⟩
    have hx : x = c := by simpa using hx
    subst hx
    unfold atI at e
    cases z2 : ixN z.cps.toList.length i with
    | none => rw [z2] at e; cases e
    | some j =>
      rw [z2] at e
      exact sOk_cps o _ (List.mem_of_getElem? e)
  · cases e
theorem e_ix (hk : Γ.K = X.K) (ha : PE X a (tW Γ W da)) (hb : PE X b (tW Γ W db)) (hs : PlainIx b := by exact fun _ _ => rfl) : PE X (.Subscript a b pos) (tE Γ W (dBin dIxV da db)) :=
  PE.w (pe_ix (r := rIx Γ.K) (by rw [hk]; exact ix_seq) ha hb hs) fun σ H Q h => bin_s ops_ix h

/-! ### slices -/
def dPart (den : Env → Res D) : Env → Res (Option Int) := fun env => (den env).bind fun d => match d with | .int i => .ok (some i) | _ => .err
def dNoP : Env → Res (Option Int) := fun _ => .ok none
def tO (Γ : Gm) (W : WX) (den : Env → Res (Option Int)) : TO := fun σ H Q => ∃ G env F, ER Γ G env σ F H ∧ post Γ W σ F H (den env) (fun o _ H' => Q o H')
theorem PO.w {e : Option Expr} {t t' : TO} (h : PO X e t) (i : ∀ σ H Q, t' σ H Q → t σ H Q) : PO X e t' := ⟨fun pins s σ H Q I q => h.run pins s σ H Q I (i σ H Q q)⟩
theorem o_none : PO X none (tO Γ W dNoP) := PO.w po_none fun σ H Q ⟨G, env, F, er, h⟩ => h.ok er
theorem o_some (h : PE X a (tE Γ W da)) : PO X (some a) (tO Γ W (dPart da)) := PO.w (po_some h) fun σ H Q ⟨G, env, F, er, h⟩ => by
  refine ⟨G, env, F, er, h.bind.imp fun d F1 H1 z0 g1 h1 v r1 => ?_⟩
  cases d <;> first | exact h1.elim | skip
  rw [Rep] at r1
  exact ⟨_, r1, h1.ok (er.gr g1)⟩
def cutD {α : Type} (xs : List α) (lo hi : Option Int) : List α := (xs.drop (HT.sIx xs.length 0 lo)).take (HT.sIx xs.length xs.length hi - HT.sIx xs.length 0 lo)
theorem cut_reps {F : Hp} {ds : List D} {vs : List V} {lo hi : Option Int} (r : Reps Γ F ds vs) : Reps Γ F (cutD ds lo hi) (cutV vs lo hi) := by
  unfold cutD cutV
  rw [r.length]
  exact (r.drop _).take _
theorem cutD_length {α : Type} (xs : List α) (lo hi : Option Int) : (cutD xs lo hi).length ≤ xs.length := by
  unfold cutD
  rw [List.length_take, List.length_drop]
  omega
/-- a list's slice -/
def dSlL (d : D) (lo hi : Option Int) : Option D := match d with
  | .lst ds => some (.lst (cutD ds lo hi))
  | .scr ns => some (.lst ((cutD ns lo hi).map D.int))
  | _ => none
def dSl (d : D) (lo hi : Option Int) : Option D := match d with
  | .lst ds => some (.lst (cutD ds lo hi))
  | .scr ns => some (.lst ((cutD ns lo hi).map D.int))
  | .str z => some (.str (cutS z lo hi))
  | .tup ds => if HT.sIx ds.length 0 lo = 0 ∧ HT.sIx ds.length ds.length hi = ds.length then none else some (.tup (cutD ds lo hi))
  | _ => none
def dSlice (f : D → Option Int → Option Int → Option D) (a : Env → Res D) (l h : Env → Res (Option Int)) : Env → Res D := fun env => (a env).bind fun x => (l env).bind fun lo => (h env).bind fun hi => op? (f x lo hi)
variable {lo hi : Option Expr} {dlo dhi : Env → Res (Option Int)} {p2 : Pos}
theorem cut_ints (ns : List Int) (lo hi : Option Int) : cutV (ns.map V.int) lo hi = (cutD ns lo hi).map V.int := by
  unfold cutV cutD
  rw [List.length_map, ← List.map_drop, ← List.map_take]
theorem n_slice (hk : Γ.K = X.K) (ha : PE X a (tW Γ W da)) (hl : PO X lo (tO Γ W dlo)) (hh : PO X hi (tO Γ W dhi)) : PE X (.Subscript a (.Slice lo hi none p2) pos) (tN Γ W (dSlice dSlL da dlo dhi)) :=
  PE.w (pe_slice (r := rSlL Γ.K) (by rw [hk]; exact sl_list) ha hl hh) fun σ H Q ⟨G, env, F, er, h⟩ => by
  refine ⟨G, env, F, er, h.bind.imp fun x F1 H1 z0 g1 h1 v r1 => ⟨G, env, F1, er.gr g1, h1.bind.imp fun l F2 H2 z1 g2 h2 => ⟨G, env, F2, (er.gr g1).gr g2, h2.bind.imp fun u F3 H3 z2 g3 h3 => ?_⟩⟩⟩
  have e3 := ((er.gr g1).gr g2).gr g3
  have r3 := (r1.gr g2).gr g3
  have gn := (g1.trans g2).trans g3
  cases x <;> first | exact h3.elim | skip
  · rename_i ns
    obtain ⟨p, rfl, ll, q⟩ := r3.scr e3.fh
    refine ⟨p, _, rfl, q, fun p hp => ?_⟩
    rw [cut_ints]
    obtain ⟨g, fp⟩ := gr_new (o := .lst ((cutD ns l u).map V.int)) e3.fh hp
    exact h3 F3 _ g p (gr_none gn hp) fp ⟨_, upd_same, by rw [List.length_map]; exact Nat.le_trans (cutD_length _ _ _) ll, reps_ints⟩
  · rename_i ds
    obtain ⟨p, vs, rfl, q, ll, r⟩ := r3.lst e3.fh
    refine ⟨p, vs, rfl, SqL.of q, fun p hp => ?_⟩
    obtain ⟨g, fp⟩ := gr_new (o := .lst (cutV vs l u)) e3.fh hp
    exact h3 F3 _ g p (gr_none gn hp) fp ⟨_, upd_same, Nat.le_trans (cutD_length _ _ _) ll, cut_reps r⟩
theorem cutS_ok {z : Str} {lo hi : Option Int} (h : sOk z = true) : sOk (cutS z lo hi) = true := by
  refine sOk_mk ?_ fun c hc => ?_
  · have : (cutS z lo hi).length ≤ z.length := by
      show (((z.cps.toList.drop (HT.sIx z.length 0 lo)).take (HT.sIx z.length z.length hi - HT.sIx z.length 0 lo)).toArray).size ≤ z.cps.size
      rw [List.size_toArray, List.length_take, List.length_drop, Array.length_toList]
      omega
    exact Nat.le_trans this (sOk_len h)
  · have hc : c ∈ (z.cps.toList.drop (HT.sIx z.length 0 lo)).take (HT.sIx z.length z.length hi - HT.sIx z.length 0 lo) := by simpa [cutS] using hc
    exact sOk_cps h c (List.mem_of_mem_drop (List.mem_of_mem_take hc))
theorem e_slice (hk : Γ.K = X.K) (ha : PE X a (tW Γ W da)) (hl : PO X lo (tO Γ W dlo)) (hh : PO X hi (tO Γ W dhi)) : PE X (.Subscript a (.Slice lo hi none p2) pos) (tE Γ W (dSlice dSl da dlo dhi)) :=
  PE.w (pe_slice (r := fun x l h H Q => rSlL Γ.K x l h H Q ∨ (rSlS x l h H Q ∨ rSlT Γ.K x l h H Q)) (by rw [hk]; exact sl_list.or (sl_str.or sl_tup)) ha hl hh) fun σ H Q ⟨G, env, F, er, h⟩ => by
  refine ⟨G, env, F, er, h.bind.imp fun x F1 H1 z0 g1 h1 v r1 => ⟨G, env, F1, er.gr g1, h1.bind.imp fun l F2 H2 z1 g2 h2 => ⟨G, env, F2, (er.gr g1).gr g2, h2.bind.imp fun u F3 H3 z2 g3 h3 => ?_⟩⟩⟩
  have e3 := ((er.gr g1).gr g2).gr g3
  have r3 := (r1.gr g2).gr g3
  cases x <;> first | exact h3.elim | skip
  · rename_i z
    obtain ⟨rfl, o⟩ := r3.str
    exact .inr (.inl ⟨z, rfl, sOk_len o, h3.ok e3 _ (by rw [Rep]; exact ⟨rfl, cutS_ok o⟩)⟩)
  · rename_i ns
    obtain ⟨p, rfl, ll, q⟩ := r3.scr e3.fh
    refine .inl ⟨p, _, rfl, q, fun p hp => ?_⟩
    rw [cut_ints]
    obtain ⟨g, fp⟩ := gr_new (o := .lst ((cutD ns l u).map V.int)) e3.fh hp
    obtain ⟨F4, g4, r4⟩ := fresh_gr (d := .lst ((cutD ns l u).map D.int)) g fp hp ⟨_, upd_same, by rw [List.length_map]; exact Nat.le_trans (cutD_length _ _ _) ll, reps_ints⟩ fun _ _ z => by cases z
    exact h3 F4 _ g4 _ r4
  · rename_i ds
    obtain ⟨p, vs, rfl, q, ll, r⟩ := r3.lst e3.fh
    refine .inl ⟨p, vs, rfl, SqL.of q, fun p hp => ?_⟩
    obtain ⟨g, fp⟩ := gr_new (o := .lst (cutV vs l u)) e3.fh hp
    obtain ⟨F4, g4, r4⟩ := fresh_gr (d := .lst (cutD ds l u)) g fp hp ⟨_, upd_same, Nat.le_trans (cutD_length _ _ _) ll, cut_reps r⟩ fun _ _ z => by cases z
    exact h3 F4 _ g4 _ r4
  · rename_i ds
    obtain ⟨p, vs, rfl, q, ll, r⟩ := r3.tup e3.fh
    unfold dSl at h3
    simp only at h3
    split at h3
    · exact h3.elim
    · rename_i hn
      refine .inr (.inr ⟨p, vs, rfl, q, by rw [r.length]; exact hn, fun p hp => ?_⟩)
      obtain ⟨F4, g4, r4⟩ := fresh_tup e3.fh hp (cut_reps (lo := l) (hi := u) r) (Nat.le_trans (cutD_length _ _ _) ll)
      exact h3 F4 _ g4 _ r4
end
end Dn

/-! Den7.lean -/
namespace Dn
open PySem PySem.Spec PyProof.Rows L2

/-! ### targets -/
/-- a target: what it makes of the names; the names' places -/
structure Tg where
  f : D → Env → Option Env
  sl : List Nat
def tgName (i : Nat) : Tg := ⟨fun d env => some (env.set i (.val d)), [i]⟩
def tgsNil : List D → Env → Option Env := fun ds env => match ds with | [] => some env | _ => none
def tgsCons (t : Tg) (r : List D → Env → Option Env) : List D → Env → Option Env := fun ds env => match ds with
  | d :: ds => (t.f d env).bind fun e => r ds e
  | [] => none
def tgTup (n : Nat) (r : List D → Env → Option Env) (sl : List Nat) : Tg := ⟨fun d env => match d with
  | .tup ds => if ds.length = n then r ds env else none
  | _ => none, sl⟩
section
variable (Γ : Gm)
def Off (sl : List Nat) (σ σ' : L2.St) : Prop := σ'.length = σ.length ∧ ∀ j, j ∉ sl → σ'[j]? = σ[j]?
def tG (g : Tg) : TG := fun v σ H Q => ∃ G env F d, ER Γ G env σ F H ∧ Rep Γ F d v ∧ match g.f d env with
  | some e => ∀ σ', ER Γ G e σ' F H → Off g.sl σ σ' → Q σ' H
  | none => False
def tGs (g : List D → Env → Option Env) (sl : List Nat) : TGs := fun vs σ H Q => ∃ G env F ds, ER Γ G env σ F H ∧ Reps Γ F ds vs ∧ match g ds env with
  | some e => ∀ σ', ER Γ G e σ' F H → Off sl σ σ' → Q σ' H
  | none => False
end
section
variable {X : Cx} {Γ : Gm} {W : WX} {pos : Pos} {e tg : Expr} {es : List Expr}
theorem PG.w {t t' : TG} (h : PG X tg t) (i : ∀ v σ H Q, t' v σ H Q → t v σ H Q) : PG X tg t' := ⟨fun pins s σ H v u Q I r q => h.run pins s σ H v u Q I r (i v σ H Q q)⟩
theorem PGs.w {t t' : TGs} (h : PGs X es t) (i : ∀ v σ H Q, t' v σ H Q → t v σ H Q) : PGs X es t' := ⟨fun pins s σ H v u Q I r q => h.run pins s σ H v u Q I r (i v σ H Q q)⟩
theorem Off.refl (sl : List Nat) (σ : L2.St) : Off sl σ σ := ⟨rfl, fun _ _ => rfl⟩
theorem Off.trans {sl sl' : List Nat} {σ σ1 σ2 : L2.St} (a : Off sl σ σ1) (b : Off sl' σ1 σ2) : Off (sl ++ sl') σ σ2 := ⟨b.1.trans a.1, fun j h => by
  rw [List.mem_append] at h
  exact (b.2 j fun z => h (.inr z)).trans (a.2 j fun z => h (.inl z))⟩
theorem g_name {x : Str} {i : Nat} (h : PG X (.Name x pos) (gName i)) : PG X (.Name x pos) (tG Γ (tgName i)) := PG.w h fun v σ H Q ⟨G, env, F, d, er, r, q⟩ =>
  q _ (er.set i r) ⟨by simp, fun j hj => by
    have : i ≠ j := fun z => hj (by simp [tgName, z])
    rw [List.getElem?_set_ne this]⟩
theorem gs_nil : PGs X [] (tGs Γ tgsNil []) := PGs.w pgs_nil fun vs σ H Q ⟨G, env, F, ds, er, r, q⟩ => by
  cases ds with
  | nil => exact ⟨r.nil_inv, q σ er (Off.refl _ _)⟩
  | cons d ds => exact q.elim
theorem gs_cons {t : Tg} {r : List D → Env → Option Env} {sl : List Nat} (h1 : PG X e (tG Γ t)) (h2 : PGs X es (tGs Γ r sl)) (hs : (assignEach (e :: es) X.env).map (·.2) = assign e X.env :: (assignEach es X.env).map (·.2) := by rfl) :
    PGs X (e :: es) (tGs Γ (tgsCons t r) (t.sl ++ sl)) := PGs.w (pgs_cons h1 h2 hs) fun vs σ H Q ⟨G, env, F, ds, er, rr, q⟩ => by
  cases ds with
  | nil => exact q.elim
  | cons d ds =>
    obtain ⟨v, vr, rfl, r1, r2⟩ := rr.cons_inv
    refine ⟨v, vr, rfl, G, env, F, d, er, r1, ?_⟩
    simp only [tgsCons] at q
    cases z : t.f d env with
    | none => rw [z] at q; exact q.elim
    | some e1 =>
      rw [z] at q
      intro σ' er' o
      refine ⟨G, e1, F, ds, er', r2, ?_⟩
      simp only [Option.bind_some] at q
      cases z2 : r ds e1 with
      | none => rw [z2] at q; exact q.elim
      | some e2 =>
        rw [z2] at q
        exact fun σ2 er2 o2 => q σ2 er2 (o.trans o2)
theorem g_tup {r : List D → Env → Option Env} {sl : List Nat} {k n : Nat} (hk : Γ.K = X.K) (hc : X.calm = true) (h : PGs X es (tGs Γ r sl)) (hn : (assignEach es X.env).length = n := by rfl) (hst : (assignEach es X.env).findIdx? (·.1) = none := by rfl) :
    PG X (.Tuple es k pos) (tG Γ (tgTup n r sl)) := PG.w (pg_tup hc h hn hst) fun v σ H Q ⟨G, env, F, d, er, rr, q⟩ => by
  simp only [tgTup] at q
  cases d with
  | tup ds =>
    rw [Rep] at rr
    obtain ⟨a, vs, rfl, sq, l, r2⟩ := rr
    by_cases hl : ds.length = n
    · simp only [if_pos hl] at q
      exact ⟨a, vs, rfl, by rw [← hk]; exact Same.sqt er.fh sq, by rw [r2.length]; exact hl, G, env, F, ds, er, r2, q⟩
    · simp only [if_neg hl] at q
  | _ => exact q.elim

/-! ### what is walked -/
def tI (Γ : Gm) (W : WX) (den : Env → Res (List D)) : TI := fun σ H R => ∃ G env F, ER Γ G env σ F H ∧ post Γ W σ F H (den env) fun ds F' H' =>
  ∀ (J : It) (Gp : Hp → Prop) (Y : Nat → Hp → V → Hp → Prop), Walk J ds.length Gp Y → ds.length ≤ sizeLine → (∀ F1 H1, Same F' F1 → Same F1 H1 → Gp H1) →
    (∀ i F1 H1 x H2, i < ds.length → Same F' F1 → Same F1 H1 → Y i H1 x H2 → ∃ F2 d, Gr F1 H1 F2 H2 ∧ ds[i]? = some d ∧ Rep Γ F2 d x) → R J H'
def dSeqOf : D → Res (List D)
  | .lst ds => .ok ds
  | .tup ds => .ok ds
  | .scr ns => .ok (ns.map D.int)
  | _ => .err
def dItL (den : Env → Res D) : Env → Res (List D) := fun env => (den env).bind fun d => match d with | .lst ds => .ok ds | .scr ns => .ok (ns.map D.int) | _ => .err
def dItT (den : Env → Res D) : Env → Res (List D) := fun env => (den env).bind fun d => match d with | .tup ds => .ok ds | _ => .err
theorem walk_reps {K : PySem.W.Frag} {Fw : Hp} {ds : List D} {vs : List V} (hr : Reps Γ Fw ds vs) : ∀ i F1 H1 x H2, i < ds.length → Same Fw F1 → Same F1 H1 → YAt vs i H1 x H2 → ∃ F2 d, Gr F1 H1 F2 H2 ∧ ds[i]? = some d ∧ Rep Γ F2 d x := fun i F1 H1 x H2 hi s1 s2 ⟨e, hx⟩ => by
  subst e
  obtain ⟨d, hd, r⟩ := hr.getV hx
  exact ⟨F1, d, Gr.refl s2, hd, r.mono s1⟩
theorem i_list {den : Env → Res D} (hk : Γ.K = X.K) (h : PE X e (tE Γ W den)) : PI X tg e (tI Γ W (dItL den)) := PI.w (pi_list h) fun σ H R ⟨G, env, F, er, q⟩ => by
  refine ⟨G, env, F, er, q.bind.imp fun d F1 H1 z0 g1 q1 v r => ?_⟩
  have er1 := er.gr g1
  cases d <;> first | exact q1.elim | skip
  · rename_i ns
    rw [Rep] at r
    obtain ⟨a, rfl, l, sq, _⟩ := r
    have k := q1.ok er1 (Itl X.K a) (fun H => SqL X.K H a (ns.map V.int)) (YAt (ns.map V.int)) (by rw [List.length_map, ← List.length_map (f := V.int) (as := ns)]; exact walk_list) (by rw [List.length_map]; exact l) (fun F2 H2 s s' => by rw [← hk]; exact s'.seq (s.seq sq)) (walk_reps (K := X.K) (reps_ints (Γ := Γ) (F := F1)))
    exact ⟨a, rfl, ⟨_, by rw [← hk]; exact g1.fh.seq sq⟩, k⟩
  · rename_i ds
    rw [Rep] at r
    obtain ⟨a, vs, rfl, sq, l, r⟩ := r
    have k := q1.ok er1 (Itl X.K a) (fun H => SqL X.K H a vs) (YAt vs) (by rw [← r.length]; exact walk_list) l (fun F2 H2 s s' => SqL.of (s' _ _ (s _ _ sq))) (walk_reps (K := X.K) r)
    exact ⟨a, rfl, ⟨_, SqL.of (g1.fh _ _ sq)⟩, k⟩
theorem i_tup {den : Env → Res D} (hk : Γ.K = X.K) (h : PE X e (tE Γ W den)) : PI X tg e (tI Γ W (dItT den)) := PI.w (pi_tup h) fun σ H R ⟨G, env, F, er, q⟩ => by
  refine ⟨G, env, F, er, q.bind.imp fun d F1 H1 z0 g1 q1 v r => ?_⟩
  have er1 := er.gr g1
  cases d <;> first | exact q1.elim | skip
  rename_i ds
  rw [Rep] at r
  obtain ⟨a, vs, rfl, sq, l, r⟩ := r
  have k := q1.ok er1 (Itt X.K a) (fun H => SqT X.K H a vs) (YAt vs) (by rw [← r.length]; exact walk_tup) l (fun F2 H2 s s' => by rw [← hk]; exact Same.sqt s' (Same.sqt s sq)) (walk_reps (K := X.K) r)
  exact ⟨a, rfl, ⟨_, by rw [← hk]; exact Same.sqt g1.fh sq⟩, k⟩
/-- range -/
def rngD (lo : Int) (n : Nat) : List D := (List.range n).map fun (i : Nat) => D.int (lo + (i : Int))
def dRng1 (den : Env → Res (List D)) : Env → Res (List D) := fun env => (den env).bind fun ds => match ds with
  | [.int j] => if j ≤ 1000000 ∧ -1000000000 ≤ j then .ok (rngD 0 j.toNat) else .err
  | _ => .err
def dRng2 (den : Env → Res (List D)) : Env → Res (List D) := fun env => (den env).bind fun ds => match ds with
  | [.int i, .int j] => if -1000000000 ≤ i ∧ i ≤ 1000000000 ∧ -1000000000 ≤ j ∧ j ≤ 1000000000 ∧ j - i ≤ 1000000 then .ok (rngD i (j - i).toNat) else .err
  | _ => .err
theorem walk_rng {lo : Int} {n : Nat} {Fw : Hp} : ∀ i F1 H1 x H2, i < (rngD lo n).length → Same Fw F1 → Same F1 H1 → YFn (fun i => V.int (lo + i)) i H1 x H2 → ∃ F2 d, Gr F1 H1 F2 H2 ∧ (rngD lo n)[i]? = some d ∧ Rep Γ F2 d x := fun i F1 H1 x H2 hi s1 s2 ⟨e, hx⟩ => by
  subst e hx
  have hi' : i < n := by simpa [rngD] using hi
  exact ⟨F1, .int (lo + i), Gr.refl s2, by simp [rngD, hi'], rep_int⟩
theorem le_line {n : Nat} (h : n ≤ 1000000) : n ≤ sizeLine := Nat.le_trans h (by rw [sizeLine_eq]; decide)
theorem rngD_length (lo : Int) (n : Nat) : (rngD lo n).length = n := by simp [rngD]
theorem i_rng1 {a : Expr} {p : Pos} {dl : Env → Res (List D)} (hg : Gl X "range") (hm : X.mg "range" = none) (ha : PA X [a] (tA Γ W dl)) (hs : starEach [a] X.env = [(false, eval a X.env)] := by rfl) : PI X tg (.Call (.Name "range" p) [a] [] pos) (tI Γ W (dRng1 dl)) :=
  PI.w (pi_range1 hg hm ha hs) fun σ H R ⟨G, env, F, er, q⟩ => by
  refine ⟨G, env, F, er, q.bind.imp fun ds F1 H1 z0 g1 q1 vs r => ?_⟩
  have er1 := er.gr g1
  split at q1
  · rename_i j
    split at q1
    · rename_i hj
      obtain ⟨v, r', rfl, r1, r2⟩ := r.cons_inv
      rw [r2.nil_inv]; rw [Rep] at r1; subst r1
      refine ⟨j, rfl, by omega, by omega, ?_⟩
      refine q1.ok er1 (Itr 0 j.toNat) (fun _ => True) (YFn fun i => V.int (0 + i)) (by rw [rngD_length]; exact walk_range) (by rw [rngD_length]; exact le_line (by omega)) (fun _ _ _ _ => trivial) walk_rng
    · exact q1.elim
  · exact q1.elim
theorem i_rng2 {a b : Expr} {p : Pos} {dl : Env → Res (List D)} (hg : Gl X "range") (hm : X.mg "range" = none) (ha : PA X [a, b] (tA Γ W dl)) (hs : starEach [a, b] X.env = [(false, eval a X.env), (false, eval b X.env)] := by rfl) (hs2 : starEach [b] X.env = [(false, eval b X.env)] := by rfl) : PI X tg (.Call (.Name "range" p) [a, b] [] pos) (tI Γ W (dRng2 dl)) :=
  PI.w (pi_range2 hg hm ha hs hs2) fun σ H R ⟨G, env, F, er, q⟩ => by
  refine ⟨G, env, F, er, q.bind.imp fun ds F1 H1 z0 g1 q1 vs r => ?_⟩
  have er1 := er.gr g1
  split at q1
  · rename_i i j
    split at q1
    · rename_i hj
      obtain ⟨v, r', rfl, r1, r2⟩ := r.cons_inv
      obtain ⟨v', r'', rfl, r1', r2'⟩ := r2.cons_inv
      rw [r2'.nil_inv]; rw [Rep] at r1 r1'; subst r1 r1'
      refine ⟨i, j, rfl, ⟨by omega, by omega, by omega, by omega⟩, ?_⟩
      refine q1.ok er1 (Itr i (j - i).toNat) (fun _ => True) (YFn fun k => V.int (i + k)) (by rw [rngD_length]; exact walk_range) (by rw [rngD_length]; exact le_line (by omega)) (fun _ _ _ _ => trivial) walk_rng
    · exact q1.elim
  · exact q1.elim
/-- enumerate -/
def enumD (ds : List D) : List D := (List.range ds.length).zipWith (fun (i : Nat) d => D.tup [.int (i : Int), d]) ds
theorem enumD_length (ds : List D) : (enumD ds).length = ds.length := by simp [enumD]
theorem enumD_get {ds : List D} {i : Nat} {d : D} (h : ds[i]? = some d) : (enumD ds)[i]? = some (.tup [.int (i : Int), d]) := by
  have hi : i < ds.length := (List.getElem?_eq_some_iff.mp h).1
  unfold enumD
  rw [List.getElem?_zipWith, h]
  simp [hi]
def dEnum (den : Env → Res (List D)) : Env → Res (List D) := fun env => (den env).bind fun ds => match ds with
  | [.lst ds] => .ok (enumD ds)
  | [.scr ns] => .ok (enumD (ns.map D.int))
  | _ => .err
theorem walk_enumD {K : PySem.W.Frag} {Fw : Hp} {ds : List D} {vs : List V} (hr : Reps Γ Fw ds vs) : ∀ i F1 H1 x H2, i < (enumD ds).length → Same Fw F1 → Same F1 H1 → YPair (fun i => some (.int (i : Nat))) (fun i => vs[i]?) i H1 x H2 → ∃ F2 d, Gr F1 H1 F2 H2 ∧ (enumD ds)[i]? = some d ∧ Rep Γ F2 d x := fun i F1 H1 x H2 hi s1 s2 ⟨T, x1, y1, e, hT, e2, hx, hy⟩ => by
  subst e e2; cases hx
  obtain ⟨d, hd, r⟩ := hr.getV hy
  obtain ⟨F2, g2, r2⟩ := fresh_tup (ds := [.int (i : Int), d]) (vs := [.int (i : Nat), y1]) s2 hT (.cons rep_int (.cons (r.mono s1) .nil)) (by show 2 ≤ sizeLine; decide)
  exact ⟨F2, _, g2, enumD_get hd, r2⟩
theorem i_enum {a : Expr} {p tpos : Pos} {elts : List Expr} {kk : Nat} {dl : Env → Res (List D)} (hk : Γ.K = X.K) (hg : Gl X "enumerate") (hm : X.mg "enumerate" = none) (ha : PA X [a] (tA Γ W dl)) (hs : starEach [a] X.env = [(false, eval a X.env)] := by rfl) :
    PI X (.Tuple elts kk tpos) (.Call (.Name "enumerate" p) [a] [] pos) (tI Γ W (dEnum dl)) := PI.w (pi_enum hg hm ha hs) fun σ H R ⟨G, env, F, er, q⟩ => by
  refine ⟨G, env, F, er, q.bind.imp fun ds F1 H1 z0 g1 q1 vs r => ?_⟩
  have er1 := er.gr g1
  split at q1
  · rename_i ds
    obtain ⟨v, r', rfl, r1, r2⟩ := r.cons_inv
    rw [r2.nil_inv]; rw [Rep] at r1
    obtain ⟨a, vs, rfl, sq, l, rr⟩ := r1
    refine ⟨a, vs, rfl, SqL.of (g1.fh _ _ sq), ?_⟩
    exact q1.ok er1 (Ite X.K a) (fun H => SqL X.K H a vs) _ (by rw [enumD_length, ← rr.length]; exact walk_enum) (by rw [enumD_length]; exact l) (fun F2 H2 s s' => SqL.of (s' _ _ (s _ _ sq))) (walk_enumD (K := X.K) rr)
  · rename_i ns
    obtain ⟨v, r', rfl, r1, r2⟩ := r.cons_inv
    rw [r2.nil_inv]; rw [Rep] at r1
    obtain ⟨a, rfl, l, sq, _⟩ := r1
    refine ⟨a, _, rfl, by rw [← hk]; exact g1.fh.seq sq, ?_⟩
    exact q1.ok er1 (Ite X.K a) (fun H => SqL X.K H a (ns.map V.int)) _ (by rw [enumD_length, List.length_map, ← List.length_map (f := V.int) (as := ns)]; exact walk_enum) (by rw [enumD_length, List.length_map]; exact l) (fun F2 H2 s s' => by rw [← hk]; exact s'.seq (s.seq sq)) (walk_enumD (K := X.K) reps_ints)
  · exact q1.elim
/-- a text, sign by sign -/
def signsD (z : Str) : List D := z.cps.toList.map fun c => .str ⟨#[c]⟩
def dItS (den : Env → Res D) : Env → Res (List D) := fun env => (den env).bind fun d => match d with | .str z => .ok (signsD z) | _ => .err
theorem i_str {den : Env → Res D} (h : PE X e (tE Γ W den)) : PI X tg e (tI Γ W (dItS den)) := PI.w (pi_str h) fun σ H R ⟨G, env, F, er, q⟩ => by
  refine ⟨G, env, F, er, q.bind.imp fun d F1 H1 z0 g1 q1 v r => ?_⟩
  have er1 := er.gr g1
  cases d <;> first | exact q1.elim | skip
  rename_i z
  rw [Rep] at r
  obtain ⟨rfl, o⟩ := r
  refine ⟨z, rfl, ?_⟩
  refine q1.ok er1 (Its z) (fun _ => True) _ (by unfold signsD; rw [List.length_map, Array.length_toList]; exact walk_str) (by unfold signsD; rw [List.length_map, Array.length_toList]; exact sOk_len o) (fun _ _ _ _ => trivial) ?_
  rintro i F2 H2 x H3 hi s1 s2 ⟨rfl, c, hc, rfl⟩
  have hc' : z.cps.toList[i]? = some c := by simpa using hc
  refine ⟨F2, .str ⟨#[c]⟩, Gr.refl s2, by unfold signsD; rw [List.getElem?_map, hc']; rfl, ?_⟩
  rw [Rep]
  refine ⟨rfl, sOk_mk (by show 1 ≤ sizeLine; decide) fun x hx => ?_⟩
  have hx : x = c := by simpa using hx
  subst hx
  exact sOk_cps o _ (List.mem_of_getElem? hc')
end
end Dn

/-! Den8.lean -/
namespace Dn
open PySem PySem.Spec PyProof.Rows L2

/-! ### for -/
def dLoop (tgt : D → Env → Option Env) (body : Env → Out) (kl : Env → Env) : List D → Env → Out
  | [], e => .nx e
  | d :: ds, e => match tgt d e with
    | none => .err
    | some e1 => match body e1 with
      | .nx e2 => dLoop tgt body kl ds (kl e2)
      | .ct e2 => dLoop tgt body kl ds (kl e2)
      | .bk e2 => .nx (kl e2)
      | .ret d => .ret d
      | .exc e2 c fs => .exc e2 c fs
      | .err => .err
def dFor (it : Env → Res (List D)) (tgt : Tg) (body : Env → Out) (kl : Env → Env) : Env → Out := fun env => match it env with
  | .ok ds => dLoop tgt.f body kl ds (kl env)
  | .exc c fs => .exc env c fs
  | .err => .err
section
variable {X : Cx} {Γ : Gm} {W : WX} {pos : Pos} {iter tg : Expr} {bd : List Stmt}
theorem s_for {it : Env → Res (List D)} {tgt : Tg} {body : Env → Out} {kl : Env → Env} (hp : PassesOwn (model X.prog X.w) X.A X.env X.xe) (hc : X.calm = true) (hi : PI X tg iter (tI Γ W it)) (hg : PG X tg (tG Γ tgt)) (hb : PSs X bd (tS Γ W body)) (hkl : Ghost Γ kl)
    (hs : ∀ x, foldedSetIterable iter X.env x = pure x := by intro _; rfl) : PS X (.For tg iter bd [] pos) (tS Γ W (dFor it tgt body kl)) := PS.w (ps_for hp hc hi hg hb hs) fun Dd σ H ⟨G, env, F, er, q⟩ => by
  refine ⟨G, env, F, er, ?_⟩
  unfold dFor at q
  cases z : it env with
  | err => rw [z] at q; exact q.elim
  | exc c fs => rw [z] at q; exact fun F' H' d g x => q σ F' H' d g.ff (er.gr g) x
  | ok ds =>
    rw [z] at q
    intro F1 H1 g J Gp Y w _ hG hY
    have er1 := er.gr g
    refine for_it w (fun i σ2 H2 => ∃ e F2, Same F1 F2 ∧ ER Γ G e σ2 F2 H2 ∧ sPost Γ W G Dd F2 (dLoop tgt.f body kl (ds.drop i) e)) ?_ ?_ ?_ ?_
    · obtain ⟨F2, s2, e2⟩ := hkl er1
      exact ⟨_, F2, s2, e2, by rw [List.drop_zero]; exact q.mono (g.ff.trans s2)⟩
    · rintro i σ2 H2 _ ⟨e, F2, s2, e2, _⟩
      exact hG F2 H2 s2 e2.fh
    · rintro i x σ2 H2 H3 hi ⟨e, F2, s2, e2, p2⟩ y
      obtain ⟨F3, d, g3, hd, r3⟩ := hY i F2 H2 x H3 hi s2 e2.fh y
      have hdr : ds.drop i = d :: ds.drop (i + 1) := by
        have h1 : i < ds.length := hi
        rw [List.getElem?_eq_getElem h1] at hd
        cases hd
        exact List.drop_eq_getElem_cons h1
      rw [hdr] at p2
      unfold dLoop at p2
      refine ⟨G, e, F3, d, e2.gr g3, r3, ?_⟩
      cases zt : tgt.f d e with
      | none => rw [zt] at p2; exact p2.elim
      | some e1 =>
        rw [zt] at p2
        intro σ3 er3 _
        refine ⟨G, e1, F3, er3, ?_⟩
        simp only at p2
        have s3 := s2.trans g3.ff
        have again : ∀ {e2' : Env}, sPost Γ W G Dd F2 (dLoop tgt.f body kl (ds.drop (i + 1)) (kl e2')) → ∀ σ' F' H', Same F3 F' → ER Γ G e2' σ' F' H' → ∃ e F2, Same F1 F2 ∧ ER Γ G e σ' F2 H' ∧ sPost Γ W G Dd F2 (dLoop tgt.f body kl (ds.drop (i + 1)) e) := fun {e2'} pp σ' F' H' s' er' => by
          obtain ⟨F4, s4, e4⟩ := hkl er'
          exact ⟨_, F4, s3.trans (s'.trans s4), e4, pp.mono (g3.ff.trans (s'.trans s4))⟩
        cases zb : body e1 with
        | nx e2' => rw [zb] at p2; exact again p2
        | ct e2' => rw [zb] at p2; exact again p2
        | bk e2' =>
          rw [zb] at p2
          intro σ' F' H' s' er'
          obtain ⟨F4, s4, e4⟩ := hkl er'
          exact p2 σ' F4 H' (g3.ff.trans (s'.trans s4)) e4
        | ret d' => rw [zb] at p2; exact fun v e' σ' F' H' s' er' r' => p2 v e' σ' F' H' (g3.ff.trans s') er' r'
        | exc e2' c fs => rw [zb] at p2; exact fun σ' F' H' dd s' er' x' => p2 σ' F' H' dd (g3.ff.trans s') er' x'
        | err => rw [zb] at p2; exact p2.elim
    · rintro σ2 H2 ⟨e, F2, s2, e2, p2⟩
      rw [List.drop_length] at p2
      exact p2 σ2 F2 H2 (Same.refl _) e2
end

/-! ### comprehensions -/
def W0 : WX := fun _ _ _ _ => False
def dCompL (tgt : D → Env → Option Env) (tst : Env → Res Bool) (elt : Env → Res D) (e : Env) : List D → Res (List D)
  | [] => .ok []
  | d :: ds => match tgt d e with
    | none => .err
    | some e1 => match tst e1 with
      | .ok false => dCompL tgt tst elt e ds
      | .ok true => match elt e1 with
        | .ok x => match dCompL tgt tst elt e ds with
          | .ok xs => .ok (x :: xs)
          | _ => .err
        | _ => .err
      | _ => .err
def dComp (it : Env → Res (List D)) (tgt : Tg) (tst : Env → Res Bool) (elt : Env → Res D) (vs : List Nat) : Env → Res D := fun env => (it env).bind fun ds => match dCompL tgt.f tst elt (kills vs env) ds with
  | .ok xs => .ok (.lst xs)
  | _ => .err
section
variable {X : Cx} {Γ : Gm} {W : WX} {pos : Pos} {iter tg elt : Expr} {ifs : List Expr}
theorem PTs.w {t t' : TT} (h : PTs X ifs t) (i : ∀ σ H Q, t' σ H Q → t σ H Q) : PTs X ifs t' := ⟨fun pins s σ H Q I q => h.run pins s σ H Q I (i σ H Q q)⟩
def dYes : Env → Res Bool := fun _ => .ok true
theorem q_nil : PTs X [] (tT Γ W dYes) := PTs.w pts_nil fun σ H Q ⟨G, env, F, er, h⟩ => post.ok (W := W) er h
theorem q_one {c : Expr} {t : Env → Res Bool} (h : PT X c (tT Γ W t)) : PTs X [c] (tT Γ W t) := pts_one h
theorem wipe_get {σ : L2.St} : ∀ {vs : List Nat} {j : Nat}, j ∉ vs → (wipe σ vs)[j]? = σ[j]?
  | [], _, _ => rfl
  | v :: vs, j, h => by
    have h1 : v ≠ j := fun z => h (by simp [z])
    have h2 : j ∉ vs := fun z => h (by simp [z])
    unfold wipe
    rw [List.getElem?_set_ne h1, wipe_get h2]
theorem wipe_in {σ : L2.St} : ∀ {vs : List Nat} {j : Nat}, j ∈ vs → j < σ.length → (wipe σ vs)[j]? = some none
  | v :: vs, j, h, hl => by
    unfold wipe
    by_cases hj : v = j
    · subst hj; rw [List.getElem?_set_self (by rw [wipe_length]; exact hl)]
    · rw [List.getElem?_set_ne hj]
      refine wipe_in ?_ hl
      rcases List.mem_cons.mp h with z | z
      · exact (hj z.symm).elim
      · exact z
theorem wipe_eq {σ σ' : L2.St} {vs : List Nat} (hl : σ'.length = σ.length) (h : ∀ j, j ∉ vs → σ'[j]? = σ[j]?) : wipe σ' vs = wipe σ vs := by
  apply List.ext_getElem?
  intro j
  by_cases hj : j ∈ vs
  · by_cases hlt : j < σ.length
    · rw [wipe_in hj hlt, wipe_in hj (by rw [hl]; exact hlt)]
    · rw [List.getElem?_eq_none (by rw [wipe_length]; omega), List.getElem?_eq_none (by rw [wipe_length]; omega)]
  · rw [wipe_get hj, wipe_get hj]; exact h j hj
theorem kills_length : ∀ {vs : List Nat} {env : Env}, (kills vs env).length = env.length
  | [], _ => rfl
  | v :: vs, env => by
    show (kills vs (env.set v .un)).length = _
    rw [kills_length, List.length_set]
theorem kills_un : ∀ {vs : List Nat} {env : Env} {j : Nat}, (env[j]? = some .un ∨ (j ∈ vs ∧ j < env.length)) → (kills vs env)[j]? = some .un
  | [], _, _, h => by
    rcases h with h | h
    · exact h
    · exact absurd h.1 (by simp)
  | v :: vs, env, j, h => by
    show (kills vs (env.set v .un))[j]? = _
    refine kills_un ?_
    by_cases hj : v = j
    · subst hj
      rcases h with h | h
      · have hl := (List.getElem?_eq_some_iff.mp h).1
        exact .inl (by rw [List.getElem?_set_self hl])
      · exact .inl (by rw [List.getElem?_set_self h.2])
    · rcases h with h | h
      · exact .inl (by rw [List.getElem?_set_ne hj]; exact h)
      · rcases List.mem_cons.mp h.1 with z | z
        · exact (hj z.symm).elim
        · exact .inr ⟨z, by rw [List.length_set]; exact h.2⟩
theorem ER.wiped {G : Gd} {env : Env} {σ : L2.St} {F H : Hp} (er : ER Γ G env σ F H) (vs : List Nat) : ER Γ G (Dn.kills vs env) (wipe σ vs) F H := by
  have go : ∀ (ws : List Nat), (∀ j ∈ ws, j ∈ vs) → ER Γ G (Dn.kills vs env) (wipe σ ws) F H := by
    intro ws
    induction ws with
    | nil => intro _; exact er.kills vs
    | cons v ws ih =>
      intro h
      have ih := ih fun j hj => h j (List.mem_cons_of_mem _ hj)
      unfold wipe
      by_cases hv : v < env.length
      · exact ih.setUn v none (kills_un (.inr ⟨h v List.mem_cons_self, hv⟩))
      · have : (wipe σ ws).set v none = wipe σ ws := List.set_eq_of_length_le (by rw [wipe_length, er.len]; omega)
        rw [this]; exact ih
  exact go vs fun _ h => h

theorem comp_r {own : List (Str × Nat)} {it : Env → Res (List D)} {tgt : Tg} {tst : Env → Res Bool} {de : Env → Res D} {σ : L2.St} {H : Hp} {Q : VK} (hsl : ∀ j ∈ tgt.sl, j ∈ own.map (·.2)) (h : tN Γ W (dComp it tgt tst de (own.map (·.2))) σ H Q) :
    tLc (tI Γ W it) (tG Γ tgt) (tT Γ W0 tst) (tE Γ W0 de) (own.map (·.2)) σ H Q := by
  obtain ⟨G, env, F, er, h⟩ := h
  refine ⟨G, env, F, er, h.bind.imp fun ds F1 H1 z0 g1 h1 => ?_⟩
  have er1 := er.gr g1
  intro J Gp Y w hline hG hY L hL
  cases zz : dCompL tgt.f tst de (kills (own.map (·.2)) env) ds with
  | err => rw [zz] at h1; exact h1.elim
  | exc c fs => rw [zz] at h1; exact h1.elim
  | ok total =>
    rw [zz] at h1
    have fL : F1 L = none := by
      cases q : F1 L with
      | none => rfl
      | some o => have := g1.fh L o q; rw [hL] at this; cases this
    refine lc_it w (fun i H2 => ∃ acc xs F2 rest, Gr F1 H1 F2 H2 ∧ F2 L = none ∧ H2 L = some (.lst acc) ∧ Reps Γ F2 xs acc ∧ xs.length ≤ i ∧ dCompL tgt.f tst de (kills (own.map (·.2)) env) (ds.drop i) = .ok rest ∧ total = xs ++ rest) ?_ ?_ ?_ ?_
    · obtain ⟨gn, _⟩ := gr_new (o := .lst []) er1.fh hL
      exact ⟨[], [], F1, total, gn, fL, upd_same, .nil, Nat.le_refl _, by rw [List.drop_zero]; exact zz, rfl⟩
    · rintro i H2 _ ⟨acc, xs, F2, rest, g2, _⟩
      exact hG F2 H2 g2.ff g2.fh
    · rintro i x H2 H3 hi ⟨acc, xs, F2, rest, g2, f2, hL2, r2, l2, c2, t2⟩ y
      obtain ⟨F3, d, g3, hd, r3⟩ := hY i F2 H2 x H3 hi g2.ff g2.fh y
      have hdr : ds.drop i = d :: ds.drop (i + 1) := by
        have h1 : i < ds.length := hi
        rw [List.getElem?_eq_getElem h1] at hd
        cases hd
        exact List.drop_eq_getElem_cons h1
      have nf : ∀ {Fa Ha Fb Hb : Hp}, Gr Fa Ha Fb Hb → Fa L = none → Ha L = some (.lst acc) → Fb L = none ∧ Hb L = some (.lst acc) := fun {Fa Ha Fb Hb} g f e => by
        refine ⟨?_, g.hh _ _ e⟩
        cases q : Fb L with
        | none => rfl
        | some o =>
          rcases g.new L o q with z | z
          · rw [f] at z; cases z
          · rw [e] at z; cases z
      obtain ⟨f3, hL3⟩ := nf g3 f2 hL2
      rw [hdr] at c2
      unfold dCompL at c2
      have er3 := ((er1.gr g2).gr g3).wiped (own.map (·.2))
      refine ⟨G, _, F3, d, er3, r3, ?_⟩
      cases zt : tgt.f d (kills (own.map (·.2)) env) with
      | none => rw [zt] at c2; cases c2
      | some e1 =>
        rw [zt] at c2
        intro σ3 er4 off
        refine ⟨?_, G, e1, F3, er4, ?_⟩
        · refine wipe_eq off.1 (fun j hj => ?_) |>.trans (wipe_eq (by rw [wipe_length]) fun j hj => ?_)
          · exact off.2 j fun z => hj (hsl j z)
          · exact wipe_get hj
        · simp only at c2
          cases zs : tst e1 with
          | err => rw [zs] at c2; cases c2
          | exc c fs => rw [zs] at c2; cases c2
          | ok k =>
            rw [zs] at c2
            intro F4 H4 g4
            obtain ⟨f4, hL4⟩ := nf g4 f3 hL3
            show ite _ _ _
            cases k with
            | false =>
              rw [if_neg Bool.false_ne_true]
              exact ⟨acc, xs, F4, rest, (g2.trans g3).trans g4, f4, hL4, r2.mono (g3.ff.trans g4.ff), by omega, c2, t2⟩
            | true =>
              rw [if_pos rfl]
              refine ⟨G, e1, F4, er4.gr g4, ?_⟩
              simp only at c2
              cases ze : de e1 with
              | err => rw [ze] at c2; cases c2
              | exc c fs => rw [ze] at c2; cases c2
              | ok y' =>
                rw [ze] at c2
                intro F5 H5 g5 v5 r5
                obtain ⟨f5, hL5⟩ := nf g5 f4 hL4
                simp only at c2
                cases zr : dCompL tgt.f tst de (kills (own.map (·.2)) env) (ds.drop (i + 1)) with
                | err => rw [zr] at c2; cases c2
                | exc c fs => rw [zr] at c2; cases c2
                | ok rest' =>
                  rw [zr] at c2
                  cases c2
                  have gg := ((g2.trans g3).trans g4).trans g5
                  refine ⟨acc, hL5, by rw [r2.length]; have : i < ds.length := hi
                                       omega, acc ++ [v5], xs ++ [y'], F5, rest', ⟨gg.ff, fun p o q => ?_, fun p o q => ?_, gg.new⟩, f5, upd_same, (r2.mono ((g3.ff.trans g4.ff).trans g5.ff)).append (.cons r5 .nil), by simp; omega, rfl, by rw [t2]; simp⟩
                  · rw [upd_ne (ne_of_none q f5)]; exact gg.fh p o q
                  · rw [upd_ne (ne_of_none q hL)]; exact gg.hh p o q
    · rintro H2 ⟨acc, xs, F2, rest, g2, f2, hL2, r2, l2, c2, t2⟩
      rw [List.drop_length] at c2
      unfold dCompL at c2
      cases c2
      rw [List.append_nil] at t2
      subst t2
      exact h1 F2 H2 g2 L (gr_none g1 hL) f2 ⟨acc, hL2, Nat.le_trans l2 hline, r2⟩
theorem n_comp0 {scope : Scope} {own : List (Str × Nat)} {it : Env → Res (List D)} {tgt : Tg} {tst : Env → Res Bool} {de : Env → Res D} (hc : X.calm = true) (hN : X.N.Nodup) (hi : PI X tg iter (tI Γ W it)) (ok : BlkOk X.N X.env.scope scope own) (hsl : ∀ j ∈ tgt.sl, j ∈ own.map (·.2))
    (hg : ∀ (s : Shared) (H : Hp) (C : Addr) (cl : List (Str × Addr)) (fp : List Addr), PG (X.blk s H scope (compEnvC scope cl C X.env) fp) tg (tG Γ tgt)) (ht : ∀ (s : Shared) (H : Hp) (C : Addr) (cl : List (Str × Addr)) (fp : List Addr), PTs (X.blk s H scope (compEnvC scope cl C X.env) fp) ifs (tT Γ W0 tst))
    (he : ∀ (s : Shared) (H : Hp) (C : Addr) (cl : List (Str × Addr)) (fp : List Addr), PE (X.blk s H scope (compEnvC scope cl C X.env) fp) elt (tE Γ W0 de)) (hs : ∀ x, foldedSetIterable iter X.env x = pure x := by intro _; rfl) :
    PE X (.ListComp elt [⟨tg, iter, ifs, 0⟩] scope pos) (tN Γ W (dComp it tgt tst de (own.map (·.2)))) := PE.w (pe_lc hc hN hi ok hg ht he hs) fun σ H Q h => comp_r hsl h
theorem n_comp {scope : Scope} {own : List (Str × Nat)} {it : Env → Res (List D)} {tgt : Tg} {tst : Env → Res Bool} {de : Env → Res D} (hc : X.calm = true) (hN : X.N.Nodup) (hi : PI X tg iter (tI Γ W it)) (ok : BlkOk X.N X.env.scope scope own) (hsl : ∀ j ∈ tgt.sl, j ∈ own.map (·.2))
    (hg : ∀ (s : Shared) (H : Hp) (C : Addr) (cl : List (Str × Addr)) (fp : List Addr), PG (X.blk s H scope (compEnvC scope cl C X.env) fp) tg (tG Γ tgt)) (ht : ∀ (s : Shared) (H : Hp) (C : Addr) (cl : List (Str × Addr)) (fp : List Addr), PTs (X.blk s H scope (compEnvC scope cl C X.env) fp) ifs (tT Γ W0 tst))
    (he : ∀ (s : Shared) (H : Hp) (C : Addr) (cl : List (Str × Addr)) (fp : List Addr), PE (X.blk s H scope (compEnvC scope cl C X.env) fp) elt (tE Γ W0 de)) (hs : ∀ x, foldedSetIterable iter X.env x = pure x := by intro _; rfl) {vs : List Nat} (hvs : own.map (·.2) = vs := by rfl) :
    PE X (.ListComp elt [⟨tg, iter, ifs, 0⟩] scope pos) (tN Γ W (dComp it tgt tst de vs)) := by subst hvs; exact n_comp0 hc hN hi ok hsl hg ht he hs
theorem s_ownComp0 {i : Nat} {y : Str} {py spos : Pos} {scope : Scope} {own : List (Str × Nat)} {it : Env → Res (List D)} {tgt : Tg} {tst : Env → Res Bool} {de : Env → Res D} (hc : X.calm = true) (hN : X.N.Nodup) (hy : X.N[i]? = some y) (hyl : X.env.scope.names.lookup y = some .local)
    (hsw : swapsWith (.ListComp elt [⟨tg, iter, ifs, 0⟩] scope pos) (some (.Name y py)) spos.line X.env = pure true) (hi : PI X tg iter (tI Γ W it)) (ok : BlkOk X.N X.env.scope scope own) (hsl : ∀ j ∈ tgt.sl, j ∈ own.map (·.2))
    (hg : ∀ (s : Shared) (H : Hp) (C : Addr) (cl : List (Str × Addr)) (fp : List Addr), PG (X.blk s H scope (compEnvC scope cl C X.env) fp) tg (tG Γ tgt)) (ht : ∀ (s : Shared) (H : Hp) (C : Addr) (cl : List (Str × Addr)) (fp : List Addr), PTs (X.blk s H scope (compEnvC scope cl C X.env) fp) ifs (tT Γ W0 tst))
    (he : ∀ (s : Shared) (H : Hp) (C : Addr) (cl : List (Str × Addr)) (fp : List Addr), PE (X.blk s H scope (compEnvC scope cl C X.env) fp) elt (tE Γ W0 de)) (hs : ∀ x, foldedSetIterable iter X.env x = pure x := by intro _; rfl) :
    PS X (.Assign [.Name y py] (.ListComp elt [⟨tg, iter, ifs, 0⟩] scope pos) spos) (tS Γ W (dOwn i (dComp it tgt tst de (own.map (·.2))))) := PS.w (ps_setLc hc hN hy hyl hsw hi ok hg ht he hs) fun Dd σ H ⟨G, env, F, er, q⟩ =>
  comp_r (W := W) hsl ⟨G, env, F, er, xpost (f := fun d => Out.nx (env.set i (.own d))) _ er q fun d F' H' g e' q a ha fa t => q _ F' H' (Same.refl _) (e'.setOwn i (er.newAt g ha fa t))⟩
theorem s_ownComp {i : Nat} {y : Str} {py spos : Pos} {scope : Scope} {own : List (Str × Nat)} {it : Env → Res (List D)} {tgt : Tg} {tst : Env → Res Bool} {de : Env → Res D} (hc : X.calm = true) (hN : X.N.Nodup) (hy : X.N[i]? = some y) (hyl : X.env.scope.names.lookup y = some .local)
    (hsw : swapsWith (.ListComp elt [⟨tg, iter, ifs, 0⟩] scope pos) (some (.Name y py)) spos.line X.env = pure true) (hi : PI X tg iter (tI Γ W it)) (ok : BlkOk X.N X.env.scope scope own) (hsl : ∀ j ∈ tgt.sl, j ∈ own.map (·.2))
    (hg : ∀ (s : Shared) (H : Hp) (C : Addr) (cl : List (Str × Addr)) (fp : List Addr), PG (X.blk s H scope (compEnvC scope cl C X.env) fp) tg (tG Γ tgt)) (ht : ∀ (s : Shared) (H : Hp) (C : Addr) (cl : List (Str × Addr)) (fp : List Addr), PTs (X.blk s H scope (compEnvC scope cl C X.env) fp) ifs (tT Γ W0 tst))
    (he : ∀ (s : Shared) (H : Hp) (C : Addr) (cl : List (Str × Addr)) (fp : List Addr), PE (X.blk s H scope (compEnvC scope cl C X.env) fp) elt (tE Γ W0 de)) (hs : ∀ x, foldedSetIterable iter X.env x = pure x := by intro _; rfl) {vs : List Nat} (hvs : own.map (·.2) = vs := by rfl) :
    PS X (.Assign [.Name y py] (.ListComp elt [⟨tg, iter, ifs, 0⟩] scope pos) spos) (tS Γ W (dOwn i (dComp it tgt tst de vs))) := by subst hvs; exact s_ownComp0 hc hN hy hyl hsw hi ok hsl hg ht he hs
theorem flat_comp {it : Env → Res (List D)} {tgt : Tg} {tst : Env → Res Bool} {de : Env → Res D} {vs : List Nat} : ∀ env d, dComp it tgt tst de vs env = .ok d → flat d = true := fun env d h => by
  unfold dComp at h
  cases z : it env with
  | ok ds =>
    rw [z] at h; simp only [Res.bind_ok] at h
    cases z2 : dCompL tgt.f tst de (kills vs env) ds with
    | ok xs => rw [z2] at h; cases h; rfl
    | exc c fs => rw [z2] at h; cases h
    | err => rw [z2] at h; cases h
  | exc c fs => rw [z] at h; cases h
  | err => rw [z] at h; cases h
theorem n_of_e {den : Env → Res D} {σ : L2.St} {H : Hp} {Q : VK} (hf : ∀ env d, den env = .ok d → flat d = true) : tE Γ W den σ H Q → tN Γ W den σ H Q := fun ⟨G, env, F, er, q⟩ => by
  refine ⟨G, env, F, er, ?_⟩
  have hf := hf env
  cases z : den env with
  | err => rw [z] at q; exact q
  | exc c fs => rw [z] at q; exact q
  | ok d =>
    rw [z] at q
    intro F1 H1 g a ha fa t
    obtain ⟨F2, g2, r⟩ := fresh_gr g fa ha t fun c ds hd => by have := hf d z; rw [hd] at this; cases this
    exact q F2 H1 g2 _ r
theorem s_setComp0 {i : Nat} {y : Str} {py spos : Pos} {scope : Scope} {own : List (Str × Nat)} {it : Env → Res (List D)} {tgt : Tg} {tst : Env → Res Bool} {de : Env → Res D} (hc : X.calm = true) (hN : X.N.Nodup) (hy : X.N[i]? = some y) (hyl : X.env.scope.names.lookup y = some .local)
    (hsw : swapsWith (.ListComp elt [⟨tg, iter, ifs, 0⟩] scope pos) (some (.Name y py)) spos.line X.env = pure true) (hi : PI X tg iter (tI Γ W it)) (ok : BlkOk X.N X.env.scope scope own) (hsl : ∀ j ∈ tgt.sl, j ∈ own.map (·.2))
    (hg : ∀ (s : Shared) (H : Hp) (C : Addr) (cl : List (Str × Addr)) (fp : List Addr), PG (X.blk s H scope (compEnvC scope cl C X.env) fp) tg (tG Γ tgt)) (ht : ∀ (s : Shared) (H : Hp) (C : Addr) (cl : List (Str × Addr)) (fp : List Addr), PTs (X.blk s H scope (compEnvC scope cl C X.env) fp) ifs (tT Γ W0 tst))
    (he : ∀ (s : Shared) (H : Hp) (C : Addr) (cl : List (Str × Addr)) (fp : List Addr), PE (X.blk s H scope (compEnvC scope cl C X.env) fp) elt (tE Γ W0 de)) (hs : ∀ x, foldedSetIterable iter X.env x = pure x := by intro _; rfl) :
    PS X (.Assign [.Name y py] (.ListComp elt [⟨tg, iter, ifs, 0⟩] scope pos) spos) (tS Γ W (dSet i (dComp it tgt tst de (own.map (·.2))))) := PS.w (ps_setLc hc hN hy hyl hsw hi ok hg ht he hs) fun Dd σ H ⟨G, env, F, er, q⟩ =>
  comp_r (W := W) hsl (n_of_e flat_comp ⟨G, env, F, er, xpost (f := fun d => Out.nx (env.set i (.val d))) _ er q fun d F' H' g e' q v r => q _ F' H' (Same.refl _) (e'.set i r)⟩)
theorem s_setComp {i : Nat} {y : Str} {py spos : Pos} {scope : Scope} {own : List (Str × Nat)} {it : Env → Res (List D)} {tgt : Tg} {tst : Env → Res Bool} {de : Env → Res D} (hc : X.calm = true) (hN : X.N.Nodup) (hy : X.N[i]? = some y) (hyl : X.env.scope.names.lookup y = some .local)
    (hsw : swapsWith (.ListComp elt [⟨tg, iter, ifs, 0⟩] scope pos) (some (.Name y py)) spos.line X.env = pure true) (hi : PI X tg iter (tI Γ W it)) (ok : BlkOk X.N X.env.scope scope own) (hsl : ∀ j ∈ tgt.sl, j ∈ own.map (·.2))
    (hg : ∀ (s : Shared) (H : Hp) (C : Addr) (cl : List (Str × Addr)) (fp : List Addr), PG (X.blk s H scope (compEnvC scope cl C X.env) fp) tg (tG Γ tgt)) (ht : ∀ (s : Shared) (H : Hp) (C : Addr) (cl : List (Str × Addr)) (fp : List Addr), PTs (X.blk s H scope (compEnvC scope cl C X.env) fp) ifs (tT Γ W0 tst))
    (he : ∀ (s : Shared) (H : Hp) (C : Addr) (cl : List (Str × Addr)) (fp : List Addr), PE (X.blk s H scope (compEnvC scope cl C X.env) fp) elt (tE Γ W0 de)) (hs : ∀ x, foldedSetIterable iter X.env x = pure x := by intro _; rfl) {vs : List Nat} (hvs : own.map (·.2) = vs := by rfl) :
    PS X (.Assign [.Name y py] (.ListComp elt [⟨tg, iter, ifs, 0⟩] scope pos) spos) (tS Γ W (dSet i (dComp it tgt tst de vs))) := by subst hvs; exact s_setComp0 hc hN hy hyl hsw hi ok hsl hg ht he hs
end
end Dn

/-! Den9.lean -/
namespace Dn
open PySem PySem.Spec PyProof.Rows L2

/-! ### what a def promises -/
section
variable (Γ : Gm)
def rPost (F H : Hp) (r : Res D) (Q : VK) (E : XK) : Prop := match r with
  | .ok d => ∀ v F' H', Gr F H F' H' → Rep Γ F' d v → Q v H'
  | .exc c fs => ∀ F' H' d, Gr F H F' H' → XD Γ F' c fs d → E (.ref (Γ.cls c)) d H'
  | .err => False
def spD (n : Nat) (f : List D → Res D) : Sp := fun vs H Q E => ∃ ds F, ds.length = n ∧ Same F H ∧ Reps Γ F ds vs ∧ rPost Γ F H (f ds) Q E
end
/-- the names at the entry -/
def env0 (n N : Nat) (ds : List D) : Env := ds.map Slot.val ++ List.replicate (N - n) .un
def outR : Out → Res D
  | .nx _ => .ok .non
  | .ret d => .ok d
  | .exc _ c fs => .exc c fs
  | _ => .err
def dFn (n N : Nat) (body : Env → Out) : List D → Res D := fun ds => outR (body (env0 n N ds))
section
variable {P : Program} {w : World} {K : PySem.W.Frag} {mg : Str → Option Value} {base : Heap} {Γ : Gm}
theorem er_start {n N : Nat} {ds : List D} {vs : List V} {F H : Hp} (hl : ds.length = n) (s : Same F H) (r : Reps Γ F ds vs) : ER Γ ⟨H, F⟩ (env0 n N ds) (vs.map some ++ List.replicate (N - vs.length) none) F H := by
  have hv : vs.length = n := r.length.trans hl
  have own : ∀ (i : Nat) d, (env0 n N ds)[i]? = some (.own d) → False := fun i d q => by
    unfold env0 at q
    rcases List.mem_append.mp (List.mem_of_getElem? q) with z | z
    · obtain ⟨a, _, e⟩ := List.mem_map.mp z; cases e
    · cases List.eq_of_mem_replicate z
  refine ⟨?_, s, Same.refl _, Same.refl _, fun p o q => .inl q, fun i sl q => ?_, fun i j a di dj q => (own i di q).elim⟩
  · simp [env0, hv, hl]
  · unfold env0 at q
    by_cases hi : i < n
    · rw [List.getElem?_append_left (by simp [hl, hi]), List.getElem?_map] at q
      cases z : ds[i]? with
      | none => rw [z] at q; cases q
      | some d =>
        rw [z] at q; cases q
        obtain ⟨v, hv', rv⟩ := r.get z
        exact ⟨some v, by rw [List.getElem?_append_left (by simp [hv, hi]), List.getElem?_map, hv']; rfl, v, rfl, rv⟩
    · have hlt : i < (ds.map Slot.val ++ List.replicate (N - n) Slot.un).length := (List.getElem?_eq_some_iff.mp q).1
      simp only [List.length_append, List.length_map, List.length_replicate, hl] at hlt
      rw [List.getElem?_append_right (by simp [hl]; omega), List.getElem?_replicate] at q
      split at q
      · cases q
        exact ⟨none, by rw [List.getElem?_append_right (by simp [hv]; omega), List.getElem?_replicate, if_pos (by simp [hv]; omega)], trivial⟩
      · cases q
theorem ER.out {n N : Nat} {env : Env} {σ : L2.St} {F H F' H' : Hp} (e : ER Γ ⟨H, F⟩ env σ F' H') (s : Same F F') : Gr F H F' H' := ⟨s, e.fh, e.bh, e.fr⟩
theorem fn_ok {x qual : Str} {st : Stmt} {f : Addr} {fd : FuncData} {N ps : List Str} {k : Nat} {den : Env → Out} (F : Fun K x qual st f fd) (S : FnScope N ps (defScope st))
    (body : ∀ (cdv : Value) (A : Around) (outer : List PySem.Env) (s : Shared) (H : Hp) (E : XK), Room k (A.deeper (envOfC qual (defScope st) s.heap.objs.size f cdv)) →
      PSs (cxOf (L2.CX P w) P w K mg base N qual (defScope st) f cdv A outer s H E) (defBody st) (tS Γ (fun c d _ H => E c d H) den)) :
    FnOk P w K mg base (L2.CX P w) (k + 1) f fd ps (spD Γ ps.length (dFn ps.length N.length den)) := by
  refine F.okX S (fun vs H Q E ⟨ds, F0, hl, s, r, _⟩ => by rw [r.length, hl]) (fun cdv A outer s H vs Q E hr h => ⟨_, body cdv A outer s H E hr, ?_⟩)
  obtain ⟨ds, F0, hl, sm, r, q⟩ := h
  refine ⟨⟨H, F0⟩, env0 ps.length N.length ds, F0, ?_, ?_⟩
  · have := er_start (Γ := Γ) (N := N.length) hl sm r
    exact this
  · unfold dFn at q
    cases z : den (env0 ps.length N.length ds) with
    | nx e => rw [z] at q; exact fun σ' F' H' s' er' => q .non F' H' (er'.out (n := 0) (N := 0) s') (by rw [Rep])
    | ret d => rw [z] at q; exact fun v e σ' F' H' s' er' r' => q v F' H' (er'.out (n := 0) (N := 0) s') r'
    | bk e => rw [z] at q; exact q.elim
    | ct e => rw [z] at q; exact q.elim
    | exc e c fs => rw [z] at q; exact fun σ' F' H' d s' er' x' => q F' H' d (er'.out (n := 0) (N := 0) s') x'
    | err => rw [z] at q; exact q.elim
/-- a def as callers take it: the missing arguments dfl are filled up -/
structure FnD (P : Program) (w : World) (K : PySem.W.Frag) (mg : Str → Option Value) (base : Heap) (Γ : Gm) (k : Nat) (f : Addr) (n : Nat) (dfl : List D) (g : List D → Res D) : Prop where
  ex : ∃ fd ps ds dvs, FnOk P w K mg base (L2.CX P w) k f fd ps (spD Γ n g) ∧ Binds K fd ps ds ∧ Vals dvs ds ∧ ∀ F, Reps Γ F dfl dvs
  kp : PySem.W.keepIn K (.ref f) = true
theorem FnD.mk0 {k n : Nat} {f : Addr} {fd : FuncData} {ps : List Str} {g : List D → Res D} (F : FnOk P w K mg base (L2.CX P w) k f fd ps (spD Γ n g)) (b : Binds K fd ps []) (kp : PySem.W.keepIn K (.ref f) = true) : FnD P w K mg base Γ k f n [] g :=
  ⟨⟨fd, ps, [], [], F, b, .nil, fun _ => .nil⟩, kp⟩
end
section
variable {X : Cx} {Γ : Gm} {W : WX} {k : Nat} {f : Addr} {n : Nat} {dfl : List D} {g : List D → Res D} {x : Str} {p pos : Pos} {e : Expr} {es : List Expr} {dl : Env → Res (List D)}
theorem run_fd (hF : FnD X.prog X.w X.K X.mg X.base Γ k f n dfl g) (hr : Room k X.A) (tk : Takes X W) {pins : List (Addr × Obj)} {σ : L2.St} {F H : Hp} {s : Shared} {Q : VK} {us : List Value} {vs : List V} {ds : List D}
    (I : Inv X pins σ H s) (r : Vals vs us) (hn : ds.length + dfl.length = n) (sm : Same F H) (rd : Reps Γ F ds vs) (h : post Γ W σ F H (g (ds ++ dfl)) (kE Γ Q)) : wpAny (model X.prog X.w) X.A (call (.ref f) us) (EP X pins σ Q) X.xe s := by
  obtain ⟨fd, ps, dus, dvs, F1, b, hv, hd⟩ := hF.ex
  have hsp : spD Γ n g (vs ++ dvs) H Q (WE W σ) := by
    refine ⟨ds ++ dfl, F, by rw [List.length_append]; exact hn, sm, rd.append (hd F), ?_⟩
    cases z : g (ds ++ dfl) with
    | ok d => rw [z] at h; exact fun v F' H' g r => h F' H' g v r
    | exc c fs => rw [z] at h; exact fun F' H' d g x => h F' H' d g x
    | err => rw [z] at h; exact h.elim
  have r2 : Vals (vs ++ dvs) (us ++ dus) := r.append hv
  have hl : (us ++ dus).length = ps.length := by rw [← r2.length]; exact F1.len _ _ _ _ hsp
  refine wpAny_call (codeAny_mono (F1.run X.A X.stack s H ⟨us, []⟩ (us ++ dus) (vs ++ dvs) Q (WE W σ) hr I.env0 (b s us I.kIn hl) r2 hsp) fun r s' hq => ?_)
  cases r with
  | error e => exact passAt tk σ pins H s e s' I hq
  | ok fl =>
    cases fl with
    | ret u => exact I.after hq
    | next => exact False.elim hq
    | brk => exact False.elim hq
    | cont => exact False.elim hq
def dCall (n : Nat) (dfl : List D) (g : List D → Res D) (dl : Env → Res (List D)) : Env → Res D := fun env => (dl env).bind fun ds => if ds.length + dfl.length = n then g (ds ++ dfl) else .err
theorem e_call (hF : FnD X.prog X.w X.K X.mg X.base Γ k f n dfl g) (hr : Room k X.A) (tk : Takes X W) (hg : Gl X x) (hm : X.mg x = some (.ref f))
    (ha : PA X (e :: es) (tA Γ W dl)) (hdb : (x == ("__debug__" : Str)) = false := by decide) (he : starEach (e :: es) X.env = (false, eval e X.env) :: starEach es X.env := by rfl) (hpl : (backTo pos (starEach es X.env)).any (·.1) = false := by rfl) :
    PE X (.Call (.Name x p) (e :: es) [] pos) (tE Γ W (dCall n dfl g dl)) := by
  refine ⟨fun pins s σ H Q I ⟨G, env, F, er, h⟩ => ?_⟩
  refine wpAny_Call_Name_kw (ld_glob I hg hm ?_ hdb)
  have hh := ha.run pos pins s σ H (fun vs H1 => ∃ F1 ds, ER Γ G env σ F1 H1 ∧ Reps Γ F1 ds vs ∧ post Γ W σ F1 H1 (if ds.length + dfl.length = n then g (ds ++ dfl) else .err) (kE Γ Q)) I ⟨G, env, F, er, h.bind.imp fun ds F1 H1 _ g1 h1 vs r => ⟨F1, ds, er.gr g1, r, h1⟩⟩
  refine PySem.W.callWith_K (h₀ := X.base) I.ok.mod.kin hF.kp (thn hh fun us s1 ⟨vs, H1, I1, r, F1, ds, er1, rd, q⟩ => ⟨I1.kIn, ?_⟩) he hpl
  split at q
  · rename_i hn
    exact run_fd hF hr tk I1 r hn er1.fh rd q
  · exact q.elim
theorem e_call0 (hF : FnD X.prog X.w X.K X.mg X.base Γ k f n dfl g) (hr : Room k X.A) (tk : Takes X W) (hg : Gl X x) (hm : X.mg x = some (.ref f)) (hdb : (x == ("__debug__" : Str)) = false := by decide) :
    PE X (.Call (.Name x p) [] [] pos) (tE Γ W (dCall n dfl g dNil)) := by
  refine ⟨fun pins s σ H Q I ⟨G, env, F, er, h⟩ => ?_⟩
  refine wpAny_Call_Name_kw (ld_glob I hg hm ?_ hdb)
  refine PySem.W.callWith_K0 I.kIn hF.kp ?_
  unfold dCall dNil at h
  simp only [Res.bind_ok] at h
  split at h
  · rename_i hn
    exact run_fd (vs := []) (ds := []) (us := []) hF hr tk I .nil hn er.fh .nil h
  · exact h.elim

/-! ### built-ins by values -/
/-- a call by values gives a thing | a new object -/
def CaS (Γ : Gm) (r : List V → Hp → VK → Prop) (f : List D → Option D) : Prop := ∀ {F H : Hp} {ds : List D} {vs : List V} {Q : VK} {d : D}, Same F H → Paired (fun d v => RepT Γ F H d v) ds vs → f ds = some d →
  (∀ u F' H', Gr F H F' H' → Rep Γ F' d u → Q u H') → r vs H Q
def CaN (Γ : Gm) (r : List V → Hp → VK → Prop) (f : List D → Option D) : Prop := ∀ {F H : Hp} {ds : List D} {vs : List V} {Q : VK} {d : D}, Same F H → Paired (fun d v => RepT Γ F H d v) ds vs → f ds = some d →
  (∀ p F' H', Gr F H F' H' → F' p = none → H p = none → Top Γ F' H' p d → Q (.ref p) H') → r vs H Q
/-- arguments that are looked at alone -/
def tAW (Γ : Gm) (W : WX) (den : Env → Res (List D)) : TA := fun σ H Q => ∃ G env F, ER Γ G env σ F H ∧ post Γ W σ F H (den env) fun ds F' H' => ∀ vs, Paired (fun d v => RepT Γ F' H' d v) ds vs → Q vs H'
theorem Paired.mono' {α β : Type} {R R' : α → β → Prop} (h : ∀ a b, R a b → R' a b) : ∀ {xs : List α} {ys : List β}, Paired R xs ys → Paired R' xs ys
  | _, _, .nil => .nil
  | _, _, .cons r t => .cons (h _ _ r) (Paired.mono' h t)
theorem aw_nil : PA X [] (tAW Γ W dNil) := PA.w pa_nil fun σ H Q ⟨G, env, F, er, h⟩ => post.ok (W := W) er h [] .nil
theorem aw_cons {da : Env → Res D} {dr : Env → Res (List D)} (ha : PE X e (tW Γ W da)) (hr : PA X es (tAW Γ W dr)) (hs : starEach (e :: es) X.env = (false, eval e X.env) :: starEach es X.env := by rfl) :
    PA X (e :: es) (tAW Γ W (dCons da dr)) := PA.w (pa_cons ha hr hs) fun σ H Q ⟨G, env, F, er, h⟩ => by
  refine ⟨G, env, F, er, h.bind.imp fun d F1 H1 _ g1 h1 v r1 => ⟨G, env, F1, er.gr g1, h1.bind.imp fun ds F2 H2 _ g2 h2 vs r2 => ?_⟩⟩
  exact h2.ok ((er.gr g1).gr g2) _ (.cons (r1.gr g2) r2)
def dBi (f : List D → Option D) (dl : Env → Res (List D)) : Env → Res D := fun env => (dl env).bind fun ds => op? (f ds)
theorem bi_s {r : List V → Hp → VK → Prop} {f : List D → Option D} {σ : L2.St} {H : Hp} {Q : VK} (hr : CaS Γ r f) (h : tE Γ W (dBi f dl) σ H Q) : tAW Γ W dl σ H fun vs H1 => r vs H1 Q := by
  obtain ⟨G, env, F, er, h⟩ := h
  refine ⟨G, env, F, er, h.bind.imp fun ds F1 H1 _ g1 h1 vs rv => ?_⟩
  cases z : f ds with
  | none => rw [z] at h1; exact h1.elim
  | some d => rw [z] at h1; exact hr (er.gr g1).fh rv z fun u F' H' g r => h1 F' H' g u r
theorem bi_n {r : List V → Hp → VK → Prop} {f : List D → Option D} {σ : L2.St} {H : Hp} {Q : VK} (hr : CaN Γ r f) (h : tN Γ W (dBi f dl) σ H Q) : tAW Γ W dl σ H fun vs H1 => r vs H1 Q := by
  obtain ⟨G, env, F, er, h⟩ := h
  refine ⟨G, env, F, er, h.bind.imp fun ds F1 H1 _ g1 h1 vs rv => ?_⟩
  cases z : f ds with
  | none => rw [z] at h1; exact h1.elim
  | some d => rw [z] at h1; exact hr (er.gr g1).fh rv z fun p F' H' g fp hp t => h1 F' H' g p (gr_none g1 hp) fp t
variable {id T : String} {r : List V → Hp → VK → Prop} {fb : List D → Option D}
theorem e_bi (hc : CallR X (.builtin id) r) (hs : CaS Γ r fb) (hg : Gl X x) (hm : X.mg x = none) (hv : bootBuiltins x = some (.builtin id)) (ha : PA X (e :: es) (tAW Γ W dl)) (hn : x ≠ "__name__" := by decide) (hdb : (x == ("__debug__" : Str)) = false := by decide)
    (he : starEach (e :: es) X.env = (false, eval e X.env) :: starEach es X.env := by rfl) (hpl : (backTo pos (starEach es X.env)).any (·.1) = false := by rfl) : PE X (.Call (.Name x p) (e :: es) [] pos) (tE Γ W (dBi fb dl)) :=
  PE.w (pe_callB hc hg hm hv ha hn hdb he hpl) fun σ H Q h => bi_s hs h
theorem e_bty (hc : CallR X (.type T) r) (hs : CaS Γ r fb) (hg : Gl X x) (hm : X.mg x = none) (hv : bootBuiltins x = some (.type T)) (ha : PA X (e :: es) (tAW Γ W dl)) (hn : x ≠ "__name__" := by decide) (hdb : (x == ("__debug__" : Str)) = false := by decide)
    (he : starEach (e :: es) X.env = (false, eval e X.env) :: starEach es X.env := by rfl) (hpl : (backTo pos (starEach es X.env)).any (·.1) = false := by rfl) : PE X (.Call (.Name x p) (e :: es) [] pos) (tE Γ W (dBi fb dl)) :=
  PE.w (pe_callTy hc hg hm hv ha hn hdb he hpl) fun σ H Q h => bi_s hs h
theorem n_bty (hc : CallR X (.type T) r) (hs : CaN Γ r fb) (hg : Gl X x) (hm : X.mg x = none) (hv : bootBuiltins x = some (.type T)) (ha : PA X (e :: es) (tAW Γ W dl)) (hn : x ≠ "__name__" := by decide) (hdb : (x == ("__debug__" : Str)) = false := by decide)
    (he : starEach (e :: es) X.env = (false, eval e X.env) :: starEach es X.env := by rfl) (hpl : (backTo pos (starEach es X.env)).any (·.1) = false := by rfl) : PE X (.Call (.Name x p) (e :: es) [] pos) (tN Γ W (dBi fb dl)) :=
  PE.w (pe_callTy hc hg hm hv ha hn hdb he hpl) fun σ H Q h => bi_n hs h
/-- len -/
def bLen : List D → Option D
  | [.lst ds] => some (.int ds.length)
  | [.tup ds] => some (.int ds.length)
  | [.scr ns] => some (.int ns.length)
  | [.str z] => some (.int z.length)
  | _ => none
theorem one_pair {F H : Hp} {d : D} {vs : List V} (h : Paired (fun d v => RepT Γ F H d v) [d] vs) : ∃ v, vs = [v] ∧ RepT Γ F H d v := by
  cases h with | cons r t => cases t; exact ⟨_, rfl, r⟩
theorem two_pair {F H : Hp} {d d' : D} {vs : List V} (h : Paired (fun d v => RepT Γ F H d v) [d, d'] vs) : ∃ v v', vs = [v, v'] ∧ RepT Γ F H d v ∧ RepT Γ F H d' v' := by
  cases h with | cons r t => cases t with | cons r' t => cases t; exact ⟨_, _, rfl, r, r'⟩
theorem cas_len : CaS Γ (fun xs H Q => ∃ x n, xs = [x] ∧ LenV Γ.K x H n ∧ Q (.int n) H) bLen := fun {F H ds vs Q d} s rv e k => by
  unfold bLen at e
  split at e
  · rename_i ds; cases e
    obtain ⟨v, rfl, r⟩ := one_pair rv
    obtain ⟨a, ws, rfl, q, l, rr⟩ := r.lst s
    exact ⟨_, ds.length, rfl, .inl ⟨ws, SqL.of q, rr.length.symm⟩, k _ F H (Gr.refl s) rep_int⟩
  · rename_i ds; cases e
    obtain ⟨v, rfl, r⟩ := one_pair rv
    obtain ⟨a, ws, rfl, q, l, rr⟩ := r.tup s
    exact ⟨_, ds.length, rfl, .inr ⟨ws, q, rr.length.symm⟩, k _ F H (Gr.refl s) rep_int⟩
  · rename_i ns; cases e
    obtain ⟨v, rfl, r⟩ := one_pair rv
    obtain ⟨a, rfl, l, q⟩ := r.scr s
    exact ⟨_, ns.length, rfl, .inl ⟨_, q, by simp⟩, k _ F H (Gr.refl s) rep_int⟩
  · rename_i z; cases e
    obtain ⟨v, rfl, r⟩ := one_pair rv
    obtain ⟨rfl, o⟩ := r.str
    exact ⟨_, z.length, rfl, ⟨sOk_len o, rfl⟩, k _ F H (Gr.refl s) rep_int⟩
  · cases e
theorem e_len (hk : Γ.K = X.K) (hg : Gl X "len") (hm : X.mg "len" = none) (ha : PA X (e :: es) (tAW Γ W dl)) (he : starEach (e :: es) X.env = (false, eval e X.env) :: starEach es X.env := by rfl) (hpl : (backTo pos (starEach es X.env)).any (·.1) = false := by rfl) :
    PE X (.Call (.Name "len" p) (e :: es) [] pos) (tE Γ W (dBi bLen dl)) := e_bi (r := fun xs H Q => ∃ x n, xs = [x] ∧ LenV Γ.K x H n ∧ Q (.int n) H) (by rw [hk]; exact call_len) cas_len hg hm PySem.boot_len ha (by decide) (by decide) he hpl
/-- all, any -/
def bools : List D → Option (List Bool)
  | [] => some []
  | .bl b :: ds => (bools ds).map fun bs => b :: bs
  | _ => none
def bAll : List D → Option D
  | [.lst ds] => (bools ds).map fun bs => .bl (bs.all _root_.id)
  | _ => none
def bAny : List D → Option D
  | [.lst ds] => (bools ds).map fun bs => .bl (bs.any _root_.id)
  | _ => none
theorem reps_bools {F : Hp} : ∀ {ds : List D} {vs : List V} {bs : List Bool}, Reps Γ F ds vs → bools ds = some bs → vs = bs.map V.bl
  | [], vs, bs, r, e => by simp only [bools] at e; cases e; exact r.nil_inv
  | d :: ds, vs, bs, r, e => by
    obtain ⟨v, vr, rfl, r1, r2⟩ := r.cons_inv
    cases d <;> try (simp [bools] at e; done)
    rename_i b
    simp only [bools, Option.map_eq_some_iff] at e
    obtain ⟨bs', e, rfl⟩ := e
    rw [Rep] at r1
    rw [r1, reps_bools r2 e]; rfl
theorem cas_all : CaS Γ (rAll Γ.K) bAll := fun {F H ds vs Q d} s rv e k => by
  unfold bAll at e
  split at e
  · rename_i ds
    simp only [Option.map_eq_some_iff] at e
    obtain ⟨bs, e, rfl⟩ := e
    obtain ⟨v, rfl, r⟩ := one_pair rv
    obtain ⟨a, ws, rfl, q, l, rr⟩ := r.lst s
    exact ⟨a, bs, rfl, by rw [← reps_bools rr e]; exact SqL.of q, k _ F H (Gr.refl s) rep_bl⟩
  · cases e
theorem cas_any : CaS Γ (rAny Γ.K) bAny := fun {F H ds vs Q d} s rv e k => by
  unfold bAny at e
  split at e
  · rename_i ds
    simp only [Option.map_eq_some_iff] at e
    obtain ⟨bs, e, rfl⟩ := e
    obtain ⟨v, rfl, r⟩ := one_pair rv
    obtain ⟨a, ws, rfl, q, l, rr⟩ := r.lst s
    exact ⟨a, bs, rfl, by rw [← reps_bools rr e]; exact SqL.of q, k _ F H (Gr.refl s) rep_bl⟩
  · cases e
theorem e_all (hk : Γ.K = X.K) (hc : X.calm = true) (hg : Gl X "all") (hm : X.mg "all" = none) (ha : PA X (e :: es) (tAW Γ W dl)) (he : starEach (e :: es) X.env = (false, eval e X.env) :: starEach es X.env := by rfl) (hpl : (backTo pos (starEach es X.env)).any (·.1) = false := by rfl) :
    PE X (.Call (.Name "all" p) (e :: es) [] pos) (tE Γ W (dBi bAll dl)) := e_bi (r := rAll Γ.K) (by rw [hk]; exact cr_all hc) cas_all hg hm (by decide +kernel) ha (by decide) (by decide) he hpl
theorem e_any (hk : Γ.K = X.K) (hc : X.calm = true) (hg : Gl X "any") (hm : X.mg "any" = none) (ha : PA X (e :: es) (tAW Γ W dl)) (he : starEach (e :: es) X.env = (false, eval e X.env) :: starEach es X.env := by rfl) (hpl : (backTo pos (starEach es X.env)).any (·.1) = false := by rfl) :
    PE X (.Call (.Name "any" p) (e :: es) [] pos) (tE Γ W (dBi bAny dl)) := e_bi (r := rAny Γ.K) (by rw [hk]; exact cr_any hc) cas_any hg hm (by decide +kernel) ha (by decide) (by decide) he hpl
/-- isinstance of things that are no instances of own classes, by built-in classes -/
def tyN : D → Option String
  | .non => some "NoneType" | .bl _ => some "bool" | .int _ => some "int" | .str _ => some "str" | .lst _ => some "list" | .scr _ => some "list" | .tup _ => some "tuple" | .dic _ _ => some "dict"
  | _ => none
def tyKnown : List String := ["NoneType", "bool", "int", "str", "list", "tuple", "dict"]
def subB (a b : String) : Bool := a == b || (a == "bool" && b == "int")
theorem kit_known : ∀ a ∈ tyKnown, ∀ b ∈ tyKnown, kitB a b = some (subB a b) := by decide +kernel
theorem tyN_known {d : D} {a : String} (h : tyN d = some a) : a ∈ tyKnown := by
  cases d <;> simp only [tyN] at h <;> cases h <;> decide
theorem tyX_of {F H : Hp} {d : D} {v : V} {a : String} (s : Same F H) (r : RepT Γ F H d v) (h : tyN d = some a) : TyX Γ.K H v (.type a) := by
  cases d <;> simp only [tyN] at h <;> cases h
  · rw [r.non]; exact .base .non
  · rw [r.bl]; exact .base (.bl _)
  · rw [r.int]; exact .base (.int _)
  · rw [r.str.1]; exact .base (.str _)
  · rcases r with r | ⟨_, _, t⟩
    · rw [Rep] at r
      obtain ⟨a, rfl, l, q, z⟩ := r
      rcases z with ⟨xs, z⟩ | ⟨o, xs, z⟩ | ⟨o, z, c⟩
      · exact .base (.lst (s _ _ z))
      · exact .base (.frz (s _ _ z))
      · exact .kList z c
    · exact t.elim
  · obtain ⟨a, ws, rfl, q, l, rr⟩ := r.lst s
    exact .base (.lst q)
  · obtain ⟨a, ws, rfl, q, l, rr⟩ := r.tup s
    rcases q with (q | ⟨o, q⟩) | ⟨o, its, n, q, c, _⟩
    · exact .base (.tup q)
    · exact .fTuple q
    · exact .kTuple q c
  · rcases r with r | ⟨a, rfl, kvs, q, _⟩
    · rw [Rep] at r
      obtain ⟨a, kvs, rfl, q, _⟩ := r
      exact .base (.dK (s _ _ q))
    · exact .base (.dK q)
def bIsB (b : String) (d : D) : Option D := if b ∈ tyKnown then (tyN d).map fun a => .bl (subB a b) else none
theorem e_isB {b : String} {y : Str} {p2 : Pos} {da : Env → Res D} (hk : Γ.K = X.K) (hg : Gl X "isinstance") (hm : X.mg "isinstance" = none) (ha : PE X e (tW Γ W da)) (hg2 : Gl X y) (hm2 : X.mg y = none) (hv : bootBuiltins y = some (.type b)) (hn : y ≠ "__name__" := by decide) (hdb : (y == ("__debug__" : Str)) = false := by decide)
    (hs : starEach [e, .Name y p2] X.env = (false, eval e X.env) :: starEach [.Name y p2] X.env := by rfl) (hpl : (backTo pos (starEach [.Name y p2] X.env)).any (·.1) = false := by rfl) (hs2 : starEach [.Name y p2] X.env = (false, eval (.Name y p2) X.env) :: starEach [] X.env := by rfl) :
    PE X (.Call (.Name "isinstance" p) [e, .Name y p2] [] pos) (tE Γ W (dUn (bIsB b) da)) :=
  PE.w (pe_callB call_isi hg hm (by decide +kernel) (pa_cons ha (pa_cons (pe_bltn (v := .ty b) hg2 hm2 hv rfl hn hdb) pa_nil hs2) hs) (by decide) (by decide) hs hpl) fun σ H Q ⟨G, env, F, er, h⟩ => by
  refine ⟨G, env, F, er, h.bind.imp fun d F1 H1 _ g1 h1 v r => ?_⟩
  have er1 := er.gr g1
  unfold bIsB at h1
  split at h1
  · rename_i hb
    cases z : tyN d with
    | none => rw [z] at h1; exact h1.elim
    | some a =>
      rw [z] at h1
      exact ⟨v, .ty b, .type a, .type b, subB a b, rfl, .ty b, by rw [← hk]; exact tyX_of er1.fh r z, kit_ty (kit_known a (tyN_known z) b hb), h1.ok er1 _ rep_bl⟩
  · exact h1.elim

/-! ### methods of texts -/
def mUpper : D → Option D
  | .str z => if z.length ≤ 5592405 ∧ sOk (Txt.upper z) = true then some (.str (Txt.upper z)) else none
  | _ => none
theorem e_upper {apos cpos : Pos} {da : Env → Res D} (ha : PE X e (tE Γ W da)) (hbase : attributeBase e "upper" X.env (eval e X.env) = eval e X.env := by rfl) (hline : (apos.endLine == cpos.line) = true := by rfl) : PE X (.Call (.Attribute e "upper" apos) [] [] cpos) (tE Γ W (dUn mUpper da)) :=
  PE.w (pe_upper ha hbase hline) fun σ H Q ⟨G, env, F, er, h⟩ => by
  refine ⟨G, env, F, er, h.bind.imp fun d F1 H1 _ g1 h1 v r => ?_⟩
  cases d <;> try exact h1.elim
  rw [Rep] at r
  obtain ⟨rfl, o⟩ := r
  unfold mUpper at h1
  simp only at h1
  split at h1
  · rename_i hl
    exact ⟨⟨_, rfl⟩, _, rfl, rfl, hl.1, h1.ok (er.gr g1) _ (by rw [Rep]; exact ⟨rfl, hl.2⟩)⟩
  · exact h1.elim
end

end Dn

/-! Den10.lean -/
namespace Dn
open PySem PySem.Spec PyProof.Rows L2

/-! ### a name's own list is changed -/
section
variable {X : Cx} {Γ : Gm} {W : WX} {x : Str} {p pos apos cpos : Pos} {e : Expr} {es : List Expr} {da : Env → Res D} {dl : Env → Res (List D)} {i : Nat}
theorem own_at {G : Gd} {env : Env} {σ : L2.St} {F H : Hp} {d : D} (er : ER Γ G env σ F H) (h : env[i]? = some (.own d)) : ∃ a, σ[i]? = some (some (.ref a)) ∧ F a = none ∧ Top Γ F H a d := by
  obtain ⟨y, hy, a, e1, f, b, t⟩ := er.sl i _ h
  subst e1
  exact ⟨a, hy, f, t⟩
/-- a statement o.m(..) on the own list of slot i -/
def dMut (i : Nat) (f : List D → List D → Option (List D)) (dl : Env → Res (List D)) : Env → Out := fun env => match env[i]? with
  | some (.own (.lst ds)) => match dl env with
    | .ok as => match f ds as with
      | some ds' => .nx (env.set i (.own (.lst ds')))
      | none => .err
    | .exc c fs => .exc env c fs
    | .err => .err
  | _ => .err
def MuS (Γ : Gm) (r : V → List V → Hp → VK → Prop) (f : List D → List D → Option (List D)) : Prop := ∀ {F H : Hp} {a : Addr} {ds as ds' : List D} {vs ws : List V} {Q : VK}, Same F H → F a = none → H a = some (.lst vs) → Reps Γ F ds vs → ds.length ≤ sizeLine →
  Reps Γ F as ws → f ds as = some ds' → (∀ v vs', ds'.length ≤ sizeLine → Reps Γ F ds' vs' → Q v (upd H a (.lst vs'))) → r (.ref a) ws H Q
theorem s_mut {r : V → List V → Hp → VK → Prop} {f : List D → List D → Option (List D)} {st : Stmt} (hst : ∀ t, PA X es t → PS X st (tDrop (tBM X.K "list" r (tVar i) t))) (hr : MuS Γ r f) (ha : PA X es (tA Γ W dl)) : PS X st (tS Γ W (dMut i f dl)) :=
  PS.w (hst _ ha) fun Dd σ H ⟨G, env, F, er, q⟩ => by
  unfold dMut at q
  split at q
  · rename_i ds hown
    obtain ⟨a, hσ, fa, vs, hv, hl, rr⟩ := own_at er hown
    refine ⟨.ref a, hσ, .inl ⟨rfl, vs, SqL.of hv⟩, G, env, F, er, ?_⟩
    cases z : dl env with
    | err => rw [z] at q; exact q.elim
    | exc c fs => rw [z] at q; exact fun F' H' d g x => q σ F' H' d g.ff (er.gr g) x
    | ok as =>
      rw [z] at q
      intro F1 H1 g1 ws ra
      simp only at q
      have er1 := er.gr g1
      obtain ⟨a', hσ', fa', vs', hv', hl', rr'⟩ := own_at er1 hown
      rw [hσ] at hσ'; cases hσ'
      cases z2 : f ds as with
      | none => rw [z2] at q; exact q.elim
      | some ds' =>
        rw [z2] at q
        refine hr er1.fh fa' hv' rr' hl' ra z2 fun v vs2 l2 r2 => ?_
        exact q σ F1 _ g1.ff (er1.write hown hσ ⟨vs2, upd_same, l2, r2⟩)
  · exact q.elim
theorem s_mut0 {r : V → List V → Hp → VK → Prop} {f : List D → List D → Option (List D)} {st : Stmt} (hst : PS X st (tDrop (tBM0 X.K "list" r (tVar i)))) (hr : MuS Γ r f) : PS X st (tS Γ W (dMut i f dNil)) :=
  PS.w hst fun Dd σ H ⟨G, env, F, er, q⟩ => by
  unfold dMut dNil at q
  split at q
  · rename_i ds hown
    obtain ⟨a, hσ, fa, vs, hv, hl, rr⟩ := own_at er hown
    refine ⟨.ref a, hσ, .inl ⟨rfl, vs, SqL.of hv⟩, ?_⟩
    simp only at q
    cases z2 : f ds [] with
    | none => rw [z2] at q; exact q.elim
    | some ds' =>
      rw [z2] at q
      exact hr er.fh fa hv rr hl .nil z2 fun v vs2 l2 r2 => q σ F _ (Same.refl _) (er.write hown hσ ⟨vs2, upd_same, l2, r2⟩)
  · exact q.elim
def fAppend : List D → List D → Option (List D) := fun ds as => match as with
  | [d] => if ds.length < sizeLine then some (ds ++ [d]) else none
  | _ => none
theorem mu_append : MuS Γ rAppend fAppend := fun {F H a ds as ds' vs ws Q} s fa hv rr hl ra e k => by
  unfold fAppend at e
  split at e
  · rename_i d
    split at e
    · rename_i hlt; cases e
      obtain ⟨v, r', rfl, r1, r2⟩ := ra.cons_inv
      rw [r2.nil_inv]
      exact ⟨a, vs, v, rfl, rfl, hv, by rw [rr.length]; exact hlt, k _ _ (by simp; omega) (rr.append (.cons r1 .nil))⟩
    · cases e
  · cases e
def fExtend : List D → List D → Option (List D) := fun ds as => match as with
  | [.lst es] => if ds.length + es.length ≤ sizeLine then some (ds ++ es) else none
  | _ => none
theorem mu_extend : MuS Γ rExtend fExtend := fun {F H a ds as ds' vs ws Q} s fa hv rr hl ra e k => by
  unfold fExtend at e
  split at e
  · rename_i es
    split at e
    · rename_i hlt; cases e
      obtain ⟨v, r', rfl, r1, r2⟩ := ra.cons_inv
      rw [r2.nil_inv]
      rw [Rep] at r1
      obtain ⟨b, us, rfl, q, l, re⟩ := r1
      exact ⟨a, b, vs, us, rfl, rfl, hv, s _ _ q, by rw [rr.length, re.length]; exact hlt, k _ _ (by simp; exact hlt) (rr.append re)⟩
    · cases e
  · cases e
def fPop : List D → List D → Option (List D) := fun ds as => match as with
  | [] => if ds = [] then none else some ds.dropLast
  | _ => none
theorem mu_pop : MuS Γ rPop fPop := fun {F H a ds as ds' vs ws Q} s fa hv rr hl ra e k => by
  unfold fPop at e
  split at e
  · rw [ra.nil_inv]
    split at e
    · cases e
    · rename_i hne; cases e
      have hv0 : vs.length - 1 < vs.length := by
        have := rr.length
        have : ds.length ≠ 0 := fun z => hne (List.length_eq_zero_iff.mp z)
        omega
      exact ⟨a, vs, vs[vs.length - 1], rfl, rfl, hv, by simp [hv0], k _ _ (by simp; omega) rr.dropLast⟩
  · cases e
def fClear : List D → List D → Option (List D) := fun _ as => match as with | [] => some [] | _ => none
theorem mu_clear : MuS Γ rClear fClear := fun {F H a ds as ds' vs ws Q} s fa hv rr hl ra e k => by
  unfold fClear at e
  split at e
  · cases e; rw [ra.nil_inv]
    exact ⟨a, vs, rfl, rfl, hv, k .non [] (Nat.zero_le _) .nil⟩
  · cases e
def fReverse : List D → List D → Option (List D) := fun ds as => match as with | [] => some ds.reverse | _ => none
theorem mu_reverse : MuS Γ rReverse fReverse := fun {F H a ds as ds' vs ws Q} s fa hv rr hl ra e k => by
  unfold fReverse at e
  split at e
  · cases e; rw [ra.nil_inv]
    exact ⟨a, vs, rfl, rfl, hv, k _ _ (by simp; exact hl) rr.reverse⟩
  · cases e
def dAppend (i : Nat) (da : Env → Res D) : Env → Out := dMut i fAppend (dCons da dNil)
def dExtend (i : Nat) (da : Env → Res D) : Env → Out := dMut i fExtend (dCons da dNil)
/-- target = value -/
def dAsg (t : Tg) (den : Env → Res D) : Env → Out := fun env => match den env with
  | .ok d => match t.f d env with
    | some e => .nx e
    | none => .err
  | .exc c fs => .exc env c fs
  | .err => .err
theorem s_asg {st : Stmt} {den : Env → Res D} {t : Tg} (h : ∀ te, PE X e te → PS X st (tAsg te (tG Γ t))) (he : PE X e (tE Γ W den)) : PS X st (tS Γ W (dAsg t den)) := PS.w (h _ he) fun Dd σ H ⟨G, env, F, er, q⟩ => by
  refine ⟨G, env, F, er, xpost (f := fun d => match t.f d env with | some e => .nx e | none => .err) _ er q fun d F' H' g e' q v r => ?_⟩
  refine ⟨G, env, F', d, e', r, ?_⟩
  cases z : t.f d env with
  | none => rw [z] at q; exact q.elim
  | some e2 => rw [z] at q; exact fun σ' er' _ => q σ' F' H' (Same.refl _) er'
/-- a, b = x, y -/
def dPar (i j : Nat) (dl : Env → Res (List D)) : Env → Out := fun env => match dl env with
  | .ok ds => match ds with
    | [a, b] => .nx ((env.set i (.val a)).set j (.val b))
    | _ => .err
  | .exc c fs => .exc env c fs
  | .err => .err
theorem s_par {st : Stmt} {j : Nat} (h : ∀ ta, PA X es ta → PS X st (tPar i j ta)) (ha : PA X es (tA Γ W dl)) : PS X st (tS Γ W (dPar i j dl)) := PS.w (h _ ha) fun Dd σ H ⟨G, env, F, er, q⟩ => by
  refine ⟨G, env, F, er, ?_⟩
  unfold dPar at q
  cases z : dl env with
  | err => rw [z] at q; exact q.elim
  | exc c fs => rw [z] at q; exact fun F' H' d g x => q σ F' H' d g.ff (er.gr g) x
  | ok ds =>
    rw [z] at q
    intro F' H' g vs r
    simp only at q
    split at q
    · obtain ⟨v, r', rfl, r1, r2⟩ := r.cons_inv
      obtain ⟨w, r'', rfl, r3, r4⟩ := r2.cons_inv
      rw [r4.nil_inv]
      exact ⟨v, w, rfl, q _ F' H' g.ff (((er.gr g).set i r1).set j r3)⟩
    · exact q.elim
/-- a module's text or number -/
theorem e_gstr {z : Str} {t : Tok} (hg : Gl X x) (hm : X.mg x = some (.str z t)) (h : sOk z = true := by decide +kernel) (hd : (x == ("__debug__" : Str)) = false := by decide) : PE X (.Name x p) (tE Γ W (dC (.str z))) := e_c (pe_glob (v := .str z) hg hm ⟨_, rfl⟩ hd) fun F => by rw [Rep]; exact ⟨rfl, h⟩
theorem e_gint {z : Int} {t : Tok} (hg : Gl X x) (hm : X.mg x = some (.int z t)) (hd : (x == ("__debug__" : Str)) = false := by decide) : PE X (.Name x p) (tE Γ W (dC (.int z))) := e_c (pe_glob (v := .int z) hg hm ⟨_, rfl⟩ hd) fun F => by rw [Rep]
/-- x in y -/
def D.sub1 : D → D → Option Bool
  | .str c, .str z => match c.cps.toList with
    | [k] => some (decide (k ∈ z.cps.toList))
    | _ => none
  | _, _ => none
def dInD (d : D) (y : D) : Option Bool := d.py.bind fun p => y.py.bind fun q => match q with
  | .list ps => if min (PyData.depthAll ps) p.depth ≤ 60 then some (ps.any fun z => PyData.eqv z p) else none
  | _ => none
def flatD : D → Bool
  | .non => true
  | .bl _ => true
  | .int _ => true
  | .str _ => true
  | _ => false
/-- == of flat things -/
def eqF : D → D → Bool
  | .non, .non => true
  | .bl a, .bl b => a == b
  | .bl a, .int b => (if a then 1 else 0) == b
  | .int a, .bl b => a == (if b then 1 else 0)
  | .int a, .int b => a == b
  | .str a, .str b => a == b
  | _, _ => false
def dInT (d : D) : D → Option Bool
  | .tup ds => if flatD d = true ∧ ds.all flatD = true then some (ds.any fun z => eqF z d) else none
  | _ => none
def dInB (x y : D) : Option Bool := ((D.sub1 x y).or (dInD x y)).or (dInT x y)
def dIn (x y : D) : Option D := (dInB x y).map D.bl
def dNotIn (x y : D) : Option D := (dInB x y).map fun k => D.bl (!k)
def rInM (K : PySem.W.Frag) (neg : Bool) : R2 := fun x y H Q => ∃ p qs, Dp K H x p ∧ Dp K H y (.list qs) ∧ p.canLay0 = true ∧ PyData.canLayAll0 qs = true ∧ min (PyData.depthAll qs) p.depth ≤ 60 ∧ Q (.bl (if neg then !(qs.any fun z => PyData.eqv z p) else qs.any fun z => PyData.eqv z p)) H
theorem op_inM (hu : X.A.units + 64 < cLine) : OpR X (compareOp .In) (rInM X.K false) := by
  intro pins s σ H x y v u Q I rx ry h
  obtain ⟨d, ds, hd, he, sd, se, hm, q⟩ := h
  obtain ⟨as, r1⟩ := Dp.reads I d x v hd rx
  obtain ⟨bs, r2⟩ := Dp.reads I (.list ds) y u he ry
  exact SeqAt.in_list_reads r2 r1 se sd (by omega) ⟨.bl _, H, I, rfl, q⟩
theorem op_notInM (hu : X.A.units + 64 < cLine) : OpR X (compareOp .NotIn) (rInM X.K true) := by
  intro pins s σ H x y v u Q I rx ry h
  obtain ⟨d, ds, hd, he, sd, se, hm, q⟩ := h
  obtain ⟨as, r1⟩ := Dp.reads I d x v hd rx
  obtain ⟨bs, r2⟩ := Dp.reads I (.list ds) y u he ry
  exact SeqAt.notIn_list_reads r2 r1 se sd (by omega) ⟨.bl _, H, I, rfl, q⟩
def rInS (neg : Bool) : R2 := fun x y H Q => ∃ (c : Nat) (z : Str), x = .str ⟨#[c]⟩ ∧ y = .str z ∧ Q (.bl (if neg then !decide (c ∈ z.cps.toList) else decide (c ∈ z.cps.toList))) H
theorem flat_rep {F H : Hp} {d : D} {v : V} (h : RepT Γ F H d v) (f : flatD d = true) : flatV v = true ∧ ∀ {d' : D} {v' : V}, RepT Γ F H d' v' → flatD d' = true → eqV v v' = eqF d d' := by
  have val : ∀ {d : D} {v : V}, RepT Γ F H d v → flatD d = true → (d = .non ∧ v = .non) ∨ (∃ b, d = .bl b ∧ v = .bl b) ∨ (∃ i, d = .int i ∧ v = .int i) ∨ ∃ z, d = .str z ∧ v = .str z := fun {d v} h f => by
    cases d <;> first | (cases f; done) | skip
    · exact .inl ⟨rfl, h.non⟩
    · exact .inr (.inl ⟨_, rfl, h.bl⟩)
    · exact .inr (.inr (.inl ⟨_, rfl, h.int⟩))
    · exact .inr (.inr (.inr ⟨_, rfl, h.str.1⟩))
  refine ⟨?_, fun {d' v'} h' f' => ?_⟩
  · rcases val h f with ⟨rfl, rfl⟩ | ⟨b, rfl, rfl⟩ | ⟨i, rfl, rfl⟩ | ⟨z, rfl, rfl⟩ <;> rfl
  · rcases val h f with ⟨rfl, rfl⟩ | ⟨b, rfl, rfl⟩ | ⟨i, rfl, rfl⟩ | ⟨z, rfl, rfl⟩ <;> rcases val h' f' with ⟨rfl, rfl⟩ | ⟨b', rfl, rfl⟩ | ⟨i', rfl, rfl⟩ | ⟨z', rfl, rfl⟩ <;> rfl
theorem flats_rep {F H : Hp} {d : D} {v : V} (h : RepT Γ F H d v) (f : flatD d = true) : ∀ {ds : List D} {vs : List V}, Reps Γ F ds vs → ds.all flatD = true → vs.all flatV = true ∧ (vs.any fun y => eqV y v) = ds.any fun z => eqF z d
  | [], _, r, _ => by rw [r.nil_inv]; exact ⟨rfl, rfl⟩
  | e :: ds, _, r, fs => by
    obtain ⟨u, r', rfl, r1, r2⟩ := r.cons_inv
    rw [List.all_cons, Bool.and_eq_true] at fs
    obtain ⟨a1, a2⟩ := flats_rep h f r2 fs.2
    obtain ⟨b1, b2⟩ := flat_rep (H := H) (.inl r1) fs.1
    exact ⟨by rw [List.all_cons, b1, a1]; rfl, by rw [List.any_cons, List.any_cons, b2 h f, a2]⟩
theorem in_core {F H : Hp} {x y : D} {v w : V} {b neg : Bool} {Q : VK} (s : Same F H) (rx : RepT Γ F H x v) (ry : RepT Γ F H y w) (e : dInB x y = some b) (k : Q (.bl (if neg then !b else b)) H) :
    rInS neg v w H Q ∨ rInM Γ.K neg v w H Q ∨ rIn Γ.K neg v w H Q := by
  unfold dInB at e
  cases z1 : D.sub1 x y with
  | some b1 =>
    rw [z1] at e; cases e
    unfold D.sub1 at z1
    split at z1
    · rename_i c z
      obtain ⟨e1, _⟩ := rx.str
      obtain ⟨e2, _⟩ := ry.str
      split at z1
      · rename_i kk hk; cases z1
        have : c = ⟨#[kk]⟩ := by
          cases c with | mk a => simp only at hk; congr; exact Array.ext' (by simpa using hk)
        subst this
        exact .inl ⟨kk, z, e1, e2, k⟩
      · cases z1
    · cases z1
  | none =>
    rw [z1] at e
    cases z2 : dInD x y with
    | some b2 =>
      rw [z2] at e; cases e
      simp only [dInD, Option.bind_eq_some_iff] at z2
      obtain ⟨p, h1, q, h2, z2⟩ := z2
      obtain ⟨a1, a2⟩ := dp_ofT s rx h1
      obtain ⟨b1, b2⟩ := dp_ofT s ry h2
      cases q <;> first | (cases z2; done) | skip
      rename_i qs
      simp only at z2
      split at z2
      · rename_i hm; cases z2
        exact .inr (.inl ⟨p, qs, a1, b1, a2, by rw [PyData.canLay0] at b2; exact b2, hm, k⟩)
      · cases z2
    | none =>
      rw [z2] at e
      simp only [Option.none_or] at e
      unfold dInT at e
      split at e
      · rename_i ds
        split at e
        · rename_i hf; cases e
          obtain ⟨a, vs, rfl, q, l, r⟩ := ry.tup s
          obtain ⟨h1, h2⟩ := flats_rep rx hf.1 r hf.2
          refine .inr (.inr ⟨a, vs, rfl, .inr q, (flat_rep rx hf.1).1, h1, ?_⟩)
          unfold inV
          rw [h2]; exact k
        · cases e
      · cases e
theorem ops_in : OpS Γ (fun x y H Q => rInS false x y H Q ∨ (rInM Γ.K false x y H Q ∨ rIn Γ.K false x y H Q)) dIn := fun {F H x y v w Q d} s rx ry e k => by
  simp only [dIn, Option.map_eq_some_iff] at e
  obtain ⟨b, e, rfl⟩ := e
  exact in_core s rx ry e (k _ F H (Gr.refl s) rep_bl)
theorem ops_notIn : OpS Γ (fun x y H Q => rInS true x y H Q ∨ (rInM Γ.K true x y H Q ∨ rIn Γ.K true x y H Q)) dNotIn := fun {F H x y v w Q d} s rx ry e k => by
  simp only [dNotIn, Option.map_eq_some_iff] at e
  obtain ⟨b, e, rfl⟩ := e
  exact in_core s rx ry e (k _ F H (Gr.refl s) rep_bl)
theorem in_rule (hk : Γ.K = X.K) (hu : X.A.units + 64 < cLine) : OpR X (compareOp .In) (fun x y H Q => rInS false x y H Q ∨ (rInM Γ.K false x y H Q ∨ rIn Γ.K false x y H Q)) := by
  rw [hk]; exact OpR.or (r := rInS false) op_in_sign (OpR.or (op_inM hu) op_in_seq)
theorem notIn_rule (hk : Γ.K = X.K) (hu : X.A.units + 64 < cLine) : OpR X (compareOp .NotIn) (fun x y H Q => rInS true x y H Q ∨ (rInM Γ.K true x y H Q ∨ rIn Γ.K true x y H Q)) := by
  rw [hk]; exact OpR.or (r := rInS true) op_notIn_sign (OpR.or (op_notInM hu) op_notIn_seq)
variable {a b : Expr} {db : Env → Res D}
theorem e_in (hk : Γ.K = X.K) (hu : X.A.units + 64 < cLine) (ha : PE X a (tW Γ W da)) (hb : PE X b (tW Γ W db)) (hm : behindInMarks .In b = false := by rfl) : PE X (.Compare a [.In] [b] pos) (tE Γ W (dBin dIn da db)) := e_cmp (in_rule hk hu) ops_in ha hb hm
theorem e_notIn (hk : Γ.K = X.K) (hu : X.A.units + 64 < cLine) (ha : PE X a (tW Γ W da)) (hb : PE X b (tW Γ W db)) (hm : behindInMarks .NotIn b = false := by rfl) : PE X (.Compare a [.NotIn] [b] pos) (tE Γ W (dBin dNotIn da db)) := e_cmp (notIn_rule hk hu) ops_notIn ha hb hm
theorem t_in (hk : Γ.K = X.K) (hu : X.A.units + 64 < cLine) (ha : PE X a (tW Γ W da)) (hb : PE X b (tW Γ W db)) (hm : behindInMarks .In b = false := by rfl) : PT X (.Compare a [.In] [b] pos) (tT Γ W (dT (dBin dIn da db))) := t_cmp (in_rule hk hu) ops_in ha hb hm
theorem t_notIn (hk : Γ.K = X.K) (hu : X.A.units + 64 < cLine) (ha : PE X a (tW Γ W da)) (hb : PE X b (tW Γ W db)) (hm : behindInMarks .NotIn b = false := by rfl) : PT X (.Compare a [.NotIn] [b] pos) (tT Γ W (dT (dBin dNotIn da db))) := t_cmp (notIn_rule hk hu) ops_notIn ha hb hm
end
end Dn

/-! Den11.lean -/
namespace Dn
open PySem PySem.Spec PyProof.Rows L2

/-! ### dicts by texts and ints -/
def keyD : D → Option Key
  | .str z => some (.inr z)
  | .int i => some (.inl i)
  | _ => none
/-- a dict's pairs -/
abbrev KD := List (Key × D)
def putD (m : KD) (k : Key) (d : D) : KD := if (m.any fun p => decide (p.1 = k)) = true then m.map (fun p => if p.1 = k then (p.1, d) else p) else m ++ [(k, d)]
def valD (m : KD) (k : Key) : Option D := (m.find? fun p => decide (p.1 = k)).map (·.2)
def D.dicOf (m : KD) : D := .dic (m.map (·.1)) (m.map (·.2))
def D.kd : D → Option KD
  | .dic ks ds => some (ks.zip ds)
  | _ => none
section
variable {X : Cx} {Γ : Gm} {W : WX} {x : Str} {p pos apos cpos : Pos} {e : Expr} {da db : Env → Res D} {dl : Env → Res (List D)} {i : Nat}
/-- pairs stand for pairs -/
def KR (Γ : Gm) (F : Hp) : KD → List (Key × V) → Prop := Paired fun p q => p.1 = q.1 ∧ Rep Γ F p.2 q.2
theorem KR.of {F : Hp} : ∀ {m : KD} {kvs : List (Key × V)}, kvs.map (·.1) = m.map (·.1) → Reps Γ F (m.map (·.2)) (kvs.map (·.2)) → KR Γ F m kvs
  | [], [], _, _ => .nil
  | [], _ :: _, h, _ => by cases h
  | _ :: _, [], h, _ => by cases h
  | p :: m, q :: kvs, h, r => by
    rw [List.map_cons, List.map_cons] at h r
    obtain ⟨v, vr, e, r1, r2⟩ := r.cons_inv
    injection h with h1 h2
    injection e with e1 e2
    subst e2
    exact .cons ⟨h1.symm, by rw [e1]; exact r1⟩ (KR.of h2 r2)
theorem KR.keys {F : Hp} {m : KD} {kvs : List (Key × V)} (h : KR Γ F m kvs) : kvs.map (·.1) = m.map (·.1) := by
  unfold KR at h
  induction h with
  | nil => rfl
  | cons r _ ih => rw [List.map_cons, List.map_cons, r.1, ih]
theorem KR.vals {F : Hp} {m : KD} {kvs : List (Key × V)} (h : KR Γ F m kvs) : Reps Γ F (m.map (·.2)) (kvs.map (·.2)) := by
  unfold KR at h
  induction h with
  | nil => exact .nil
  | cons r _ ih => exact .cons r.2 ih
theorem KR.mono {F F' : Hp} {m : KD} {kvs : List (Key × V)} (s : Same F F') (h : KR Γ F m kvs) : KR Γ F' m kvs := Paired.mono' (fun _ _ q => ⟨q.1, q.2.mono s⟩) h
theorem KR.any {F : Hp} {m : KD} {kvs : List (Key × V)} (k : Key) (h : KR Γ F m kvs) : (kvs.any fun q => decide (q.1 = k)) = m.any fun q => decide (q.1 = k) := by
  unfold KR at h
  induction h with
  | nil => rfl
  | cons r _ ih => rw [List.any_cons, List.any_cons, r.1, ih]
theorem KR.upd {F : Hp} {m : KD} {kvs : List (Key × V)} (k : Key) {d : D} {v : V} (rv : Rep Γ F d v) (h : KR Γ F m kvs) : KR Γ F (m.map (fun p => if p.1 = k then (p.1, d) else p)) (kvs.map fun p => if p.1 = k then (p.1, v) else p) := by
  unfold KR at h ⊢
  induction h with
  | nil => exact .nil
  | @cons a b as bs r _ ih =>
    rw [List.map_cons, List.map_cons]
    refine .cons ?_ ih
    by_cases hk : b.1 = k
    · rw [if_pos hk, if_pos (r.1.trans hk)]; exact ⟨r.1, rv⟩
    · rw [if_neg hk, if_neg (fun z => hk (r.1.symm.trans z))]; exact ⟨r.1, r.2⟩
theorem KR.app {F : Hp} {m : KD} {kvs : List (Key × V)} (k : Key) {d : D} {v : V} (rv : Rep Γ F d v) (h : KR Γ F m kvs) : KR Γ F (m ++ [(k, d)]) (kvs ++ [(k, v)]) := by
  unfold KR at h ⊢
  induction h with
  | nil => exact .cons ⟨rfl, rv⟩ .nil
  | cons r _ ih => exact .cons r ih
theorem KR.put {F : Hp} {m : KD} {kvs : List (Key × V)} (k : Key) {d : D} {v : V} (rv : Rep Γ F d v) (h : KR Γ F m kvs) : KR Γ F (putD m k d) (putK kvs k v) := by
  unfold putD putK
  rw [h.any k]
  split
  · exact h.upd k rv
  · exact h.app k rv
theorem KR.val {F : Hp} {m : KD} {kvs : List (Key × V)} (k : Key) (h : KR Γ F m kvs) : (valV kvs k = none ∧ valD m k = none) ∨ ∃ v d, valV kvs k = some v ∧ valD m k = some d ∧ Rep Γ F d v := by
  unfold KR at h
  induction h with
  | nil => exact .inl ⟨rfl, rfl⟩
  | @cons a b as bs r _ ih =>
    by_cases hk : b.1 = k
    · exact .inr ⟨b.2, a.2, valV_pos hk, by simp [valD, List.find?_cons, r.1, hk], r.2⟩
    · rw [valV_neg hk]
      have : valD (a :: as) k = valD as k := by simp [valD, List.find?_cons, r.1, hk]
      rw [this]; exact ih
theorem key_rep {F H : Hp} {d : D} {v : V} {k : Key} (r : RepT Γ F H d v) (h : keyD d = some k) : v = kV k := by
  cases d <;> simp only [keyD] at h <;> cases h
  · rw [r.int]; rfl
  · rw [r.str.1]; rfl
theorem KR.length {F : Hp} {m : KD} {kvs : List (Key × V)} (h : KR Γ F m kvs) : kvs.length = m.length := by
  have := h.keys
  have e := congrArg List.length this
  simpa using e
/-- a dict that is looked at -/
theorem dic_at {F H : Hp} {m : KD} {v : V} (s : Same F H) : RepT Γ F H (D.dicOf m) v → ∃ a kvs, v = .ref a ∧ H a = some (.dK kvs) ∧ kvs.length ≤ sizeLine ∧ KR Γ F m kvs
  | .inl h => by
    unfold D.dicOf at h
    rw [Rep] at h
    obtain ⟨a, kvs, rfl, q, e, l, r⟩ := h
    exact ⟨a, kvs, rfl, s _ _ q, l, KR.of e r⟩
  | .inr ⟨a, e1, kvs, q, e, l, r⟩ => ⟨a, kvs, e1, q, l, KR.of e r⟩
theorem top_dic {F H : Hp} {a : Addr} {m : KD} {kvs : List (Key × V)} (h : H a = some (.dK kvs)) (l : kvs.length ≤ sizeLine) (r : KR Γ F m kvs) : Top Γ F H a (D.dicOf m) := ⟨kvs, h, r.keys, l, r.vals⟩

/-- {} -/
theorem n_dic0 : PE X (.Dict [] [] pos) (tN Γ W (dC (D.dicOf []))) := PE.w pe_dnewK fun σ H Q ⟨G, env, F, er, h⟩ => fun q hq => by
  obtain ⟨g, fp⟩ := gr_new (o := .dK []) er.fh hq
  exact h F _ g q hq fp (top_dic upd_same (Nat.zero_le _) .nil)
/-- a written dict -/
def dPairs : List ((Env → Res D) × (Env → Res D)) → Env → Res KD
  | [], _ => .ok []
  | (a, b) :: r, env => (a env).bind fun x => (b env).bind fun y => (dPairs r env).bind fun m => op? ((keyD x).map fun k => (k, y) :: m)
def dDisp (prs : List ((Env → Res D) × (Env → Res D))) : Env → Res D := fun env => (dPairs prs env).bind fun m => if m.length ≤ 15 then .ok (D.dicOf (m.foldl (fun acc p => putD acc p.1 p.2) [])) else .err
def trE (Γ : Gm) (W : WX) (prs : List ((Env → Res D) × (Env → Res D))) : List (TE × TE) := prs.map fun p => (tE Γ W p.1, tE Γ W p.2)
theorem pairs_r {G : Gd} {env : Env} {σ : L2.St} : ∀ {prs : List ((Env → Res D) × (Env → Res D))} {F H : Hp} {Q : List (V × V) → Hp → Prop}, ER Γ G env σ F H →
    post Γ W σ F H (dPairs prs env) (fun m F' H' => ∀ kvs : List (Key × V), KR Γ F' m kvs → Q (kvs.map fun kv => (kV kv.1, kv.2)) H') → tPairs (trE Γ W prs) σ H Q
  | [], F, H, Q, er, h => post.ok (W := W) er h [] .nil
  | (a, b) :: prs, F, H, Q, er, h => by
    refine ⟨G, env, F, er, h.bind.imp fun x F1 H1 _ g1 h1 v r1 => ⟨G, env, F1, er.gr g1, h1.bind.imp fun y F2 H2 _ g2 h2 w r2 => ?_⟩⟩
    refine pairs_r ((er.gr g1).gr g2) (h2.bind.imp fun m F3 H3 _ g3 h3 kvs kr => ?_)
    cases z : keyD x with
    | none => rw [z] at h3; exact h3.elim
    | some k =>
      rw [z] at h3
      have e3 := ((er.gr g1).gr g2).gr g3
      have ek : v = kV k := key_rep (H := H1) (.inl r1) z
      subst ek
      exact h3.ok e3 ((k, w) :: kvs) (.cons ⟨rfl, r2.mono g3.ff⟩ kr)
theorem kr_merge {F : Hp} {m : KD} {kvs : List (Key × V)} (h : KR Γ F m kvs) : ∀ {acc : KD} {av : List (Key × V)}, KR Γ F acc av → KR Γ F (m.foldl (fun acc p => putD acc p.1 p.2) acc) (mergeK av kvs) := by
  unfold KR at h
  induction h with
  | nil => intro acc av h; exact h
  | @cons a b as bs r _ ih =>
    intro acc av h
    show KR Γ F (as.foldl (fun acc p => putD acc p.1 p.2) (putD acc a.1 a.2)) (mergeK (putK av b.1 b.2) bs)
    rw [← r.1]
    exact ih (h.put a.1 r.2)
theorem n_disp {keys : List (Option Expr)} {values : List Expr} {prs : List ((Env → Res D) × (Env → Res D))} (h : PPs X pos keys values (trE Γ W prs)) (hall : keys.all (·.isSome) = true := by rfl) (hl : keys.length = values.length := by rfl) (h0 : keys ≠ [] := by exact fun h => nomatch h) (h15 : keys.length ≤ 15 := by decide) :
    PE X (.Dict keys values pos) (tN Γ W (dDisp prs)) := PE.w (pe_disp h hall hl h0 h15) fun σ H Q ⟨G, env, F, er, q⟩ => fun a ha => by
  obtain ⟨g0, fa⟩ := gr_new (o := .dK []) er.fh ha
  have er0 := er.gr g0
  refine pairs_r er0 ?_
  unfold dDisp at q
  cases z : dPairs prs env with
  | err => rw [z] at q; exact q.elim
  | exc c fs => rw [z] at q; exact q.mono g0
  | ok m =>
    rw [z] at q
    simp only [Res.bind_ok] at q
    intro F1 H1 g1 kvs kr
    have hH1 : H1 a = some (.dK []) := g1.hh _ _ upd_same
    have f1 : F1 a = none := by
      cases z : F1 a with
      | none => rfl
      | some o =>
        rcases g1.new a o z with y | y
        · rw [fa] at y; cases y
        · rw [upd_same] at y; cases y
    split at q
    · rename_i hm
      refine ⟨hH1, kvs, rfl, by rw [kr.length]; exact hm, ?_⟩
      have gg := g0.trans g1
      refine q F1 _ ⟨gg.ff, fun p o y => ?_, fun p o y => ?_, gg.new⟩ a ha f1 (top_dic upd_same ?_ (kr_merge kr .nil))
      · rw [upd_ne (ne_of_none y f1)]; exact gg.fh p o y
      · rw [upd_ne (ne_of_none y ha)]; exact gg.hh p o y
      · have h1 := length_mergeK kvs []
        have h2 := kr.length
        rw [List.length_nil] at h1
        rw [sizeLine_eq]; omega
    · exact q.elim
theorem flat_disp {prs : List ((Env → Res D) × (Env → Res D))} : ∀ env d, dDisp prs env = .ok d → flat d = true := fun env d h => by
  unfold dDisp at h
  cases z : dPairs prs env with
  | ok m => rw [z] at h; simp only [Res.bind_ok] at h; split at h <;> cases h; rfl
  | exc c fs => rw [z] at h; cases h
  | err => rw [z] at h; cases h
end
end Dn

/-! Den12.lean -/
namespace Dn
open PySem PySem.Spec PyProof.Rows L2
theorem script_rep {Γ : Gm} {H : Hp} {a : Addr} {ns : List Int} (hl : ns.length ≤ 63) (q : SqL Γ.K H a (ns.map V.int)) : Rep Γ H (.scr ns) (.ref a) := by
  rw [Rep]
  refine ⟨a, rfl, Nat.le_trans hl (by decide), q, ?_⟩
  rcases q with (q | ⟨o, q⟩) | ⟨o, its, n, q, c, _⟩
  · exact .inl ⟨_, q⟩
  · exact .inr (.inl ⟨o, _, q⟩)
  · exact .inr (.inr ⟨o, q, c⟩)
theorem end_sp {Γ : Gm} {f : List D → Res D} (ht : ∀ ns : List Int, ns.length ≤ 63 → f [.scr ns] = .ok (.bl true)) {vs : List V} {H : Hp} {Q : VK} {E : XK} {a : Addr} {ns : List Int} (e : vs = [.ref a]) (q : SqL Γ.K H a (ns.map V.int)) (hl : ns.length ≤ 63) (k : ∀ H', Q (.bl true) H') : spD Γ 1 f vs H Q E := by
  subst e
  refine ⟨[.scr ns], H, rfl, Same.refl _, .cons (script_rep hl q) .nil, ?_⟩
  rw [ht ns hl]
  intro v F' H' g r
  rw [Rep] at r
  subst r
  exact k H'
end Dn

/-! Ev.lean -/
/-! How denotations are reckoned: applied forms for simp. -/
namespace Dn
open PySem L2

def Out.seq (o : Out) (b : Env → Out) : Out := match o with
  | .nx e => b e
  | o => o
@[simp] theorem Out.seq_nx (e : Env) (b : Env → Out) : (Out.nx e).seq b = b e := rfl
@[simp] theorem Out.seq_ret (d : D) (b : Env → Out) : (Out.ret d).seq b = .ret d := rfl
@[simp] theorem Out.seq_bk (e : Env) (b : Env → Out) : (Out.bk e).seq b = .bk e := rfl
@[simp] theorem Out.seq_ct (e : Env) (b : Env → Out) : (Out.ct e).seq b = .ct e := rfl
@[simp] theorem Out.seq_exc (e : Env) (c fs) (b : Env → Out) : (Out.exc e c fs).seq b = .exc e c fs := rfl
@[simp] theorem Out.seq_err (b : Env → Out) : (Out.err).seq b = .err := rfl
theorem Out.seq_ite {p : Prop} [Decidable p] (x y : Out) (b : Env → Out) : (if p then x else y).seq b = if p then x.seq b else y.seq b := by split <;> rfl
def Res.out {α : Type} (r : Res α) (env : Env) (f : α → Out) : Out := match r with
  | .ok d => f d
  | .exc c fs => .exc env c fs
  | .err => .err
@[simp] theorem Res.out_ok {α : Type} (a : α) (env : Env) (f : α → Out) : (Res.ok a).out env f = f a := rfl
@[simp] theorem Res.out_exc {α : Type} (c fs) (env : Env) (f : α → Out) : (Res.exc c fs).out env f = .exc env c fs := rfl
@[simp] theorem Res.out_err {α : Type} (env : Env) (f : α → Out) : (Res.err).out env f = .err := rfl
def ifB {α : Type} (k : Bool) (a b : Env → α) (env : Env) : α := match k with
  | true => a env
  | false => b env
@[simp] theorem ifB_t {α : Type} (a b : Env → α) (env : Env) : ifB true a b env = a env := rfl
@[simp] theorem ifB_f {α : Type} (a b : Env → α) (env : Env) : ifB false a b env = b env := rfl
@[simp] theorem dSkip_ap (env : Env) : dSkip env = .nx env := rfl
@[simp] theorem dSeq_ap (a b : Env → Out) (env : Env) : dSeq a b env = (a env).seq b := by
  unfold dSeq; cases a env <;> rfl
@[simp] theorem dSet_ap (i : Nat) (den : Env → Res D) (env : Env) : dSet i den env = (den env).out env fun d => .nx (env.set i (.val d)) := by
  unfold dSet; cases den env <;> rfl
@[simp] theorem dOwn_ap (i : Nat) (den : Env → Res D) (env : Env) : dOwn i den env = (den env).out env fun d => .nx (env.set i (.own d)) := by
  unfold dOwn; cases den env <;> rfl
@[simp] theorem dRet_ap (den : Env → Res D) (env : Env) : dRet den env = (den env).out env Out.ret := by
  unfold dRet; cases den env <;> rfl
@[simp] theorem dDo_ap (den : Env → Res D) (env : Env) : dDo den env = (den env).out env fun _ => .nx env := by
  unfold dDo; cases den env <;> rfl
@[simp] theorem dIf_ap (t : Env → Res Bool) (a b : Env → Out) (env : Env) : dIf t a b env = (t env).out env fun k => ifB k a b env := by
  unfold dIf
  cases t env with
  | ok k => cases k <;> rfl
  | exc c fs => rfl
  | err => rfl
@[simp] theorem dPre_ap (g : Env → Env) (s : Env → Out) (env : Env) : dPre g s env = s (g env) := rfl
@[simp] theorem dAsg_ap (t : Tg) (den : Env → Res D) (env : Env) : dAsg t den env = (den env).out env fun d => match t.f d env with | some e => .nx e | none => .err := by
  unfold dAsg; cases den env <;> rfl
@[simp] theorem dPar_ap (i j : Nat) (dl : Env → Res (List D)) (env : Env) : dPar i j dl env = (dl env).out env fun ds => match ds with | [a, b] => .nx ((env.set i (.val a)).set j (.val b)) | _ => .err := by
  unfold dPar; cases dl env <;> rfl
@[simp] theorem dFor_ap (it : Env → Res (List D)) (tgt : Tg) (body : Env → Out) (kl : Env → Env) (env : Env) : dFor it tgt body kl env = (it env).out env fun ds => dLoop tgt.f body kl ds (kl env) := by
  unfold dFor; cases it env <;> rfl
@[simp] theorem kills_nil (env : Env) : kills [] env = env := rfl
@[simp] theorem kills_cons (i : Nat) (is : List Nat) (env : Env) : kills (i :: is) env = kills is (env.set i .un) := rfl
def frzS : Option Slot → Option Slot
  | some (.own d) => if flat d = true then some (.val d) else none
  | _ => none
@[simp] theorem frzs_nil (env : Env) : frzs [] env = env := rfl
@[simp] theorem frzs_cons (i : Nat) (is : List Nat) (env : Env) : frzs (i :: is) env = frzs is (frz i env) := rfl
@[simp] theorem frz_own (i : Nat) (env : Env) (ds : List D) (h : env[i]? = some (.own (.lst ds))) : frz i env = env.set i (.val (.lst ds)) := by
  unfold frz; rw [h]; rfl
@[simp] theorem dVar_ap (i : Nat) (env : Env) : dVar i env = match env[i]? with | some (.val d) => .ok d | _ => .err := rfl
@[simp] theorem dPeek_ap (i : Nat) (env : Env) : dPeek i env = match env[i]? with | some (.val d) => .ok d | some (.own d) => .ok d | _ => .err := rfl
@[simp] theorem dC_ap (d : D) (env : Env) : dC d env = .ok d := rfl
@[simp] theorem dNil_ap (env : Env) : dNil env = .ok [] := rfl
@[simp] theorem dCons_ap (a : Env → Res D) (r : Env → Res (List D)) (env : Env) : dCons a r env = (a env).bind fun d => (r env).bind fun ds => .ok (d :: ds) := rfl
@[simp] theorem dBin_ap (f : D → D → Option D) (a b : Env → Res D) (env : Env) : dBin f a b env = (a env).bind fun x => (b env).bind fun y => op? (f x y) := rfl
@[simp] theorem dUn_ap (f : D → Option D) (a : Env → Res D) (env : Env) : dUn f a env = (a env).bind fun x => op? (f x) := rfl
@[simp] theorem dBi_ap (f : List D → Option D) (a : Env → Res (List D)) (env : Env) : dBi f a env = (a env).bind fun x => op? (f x) := rfl
@[simp] theorem dT_ap (a : Env → Res D) (env : Env) : dT a env = (a env).bind asB := rfl
@[simp] theorem asB_bl (k : Bool) : asB (.bl k) = .ok k := rfl
@[simp] theorem dTru_ap (a : Env → Res D) (env : Env) : dTru a env = (a env).bind fun d => op? (tru d) := rfl
@[simp] theorem tru_bl (k : Bool) : tru (.bl k) = some k := rfl
@[simp] theorem tru_int (i : Int) : tru (.int i) = some (i != 0) := rfl
@[simp] theorem tru_non : tru .non = some false := rfl
@[simp] theorem dAnd_ap (a b : Env → Res Bool) (env : Env) : dAnd a b env = (a env).bind fun k => ifB k b (fun _ => .ok false) env := by
  unfold dAnd; cases a env with
  | ok k => cases k <;> rfl
  | exc c fs => rfl
  | err => rfl
@[simp] theorem dOr_ap (a b : Env → Res Bool) (env : Env) : dOr a b env = (a env).bind fun k => ifB k (fun _ => .ok true) b env := by
  unfold dOr; cases a env with
  | ok k => cases k <;> rfl
  | exc c fs => rfl
  | err => rfl
@[simp] theorem dNot_ap (a : Env → Res Bool) (env : Env) : dNot a env = (a env).bind fun k => .ok (!k) := rfl
def asBV (b : Env → Res D) (env : Env) (isand : Bool) : D → Res D
  | .bl true => if isand then b env else .ok (.bl true)
  | .bl false => if isand then .ok (.bl false) else b env
  | _ => .err
@[simp] theorem dAndV_ap (a b : Env → Res D) (env : Env) : dAndV a b env = (a env).bind fun x => match x with | .bl k => ifB k b (fun _ => .ok (.bl false)) env | _ => .err := by
  unfold dAndV; cases a env with
  | ok k => cases k <;> first | rfl | (rename_i k; cases k <;> rfl)
  | exc c fs => rfl
  | err => rfl
@[simp] theorem dOrV_ap (a b : Env → Res D) (env : Env) : dOrV a b env = (a env).bind fun x => match x with | .bl k => ifB k (fun _ => .ok (.bl true)) b env | _ => .err := by
  unfold dOrV; cases a env with
  | ok k => cases k <;> first | rfl | (rename_i k; cases k <;> rfl)
  | exc c fs => rfl
  | err => rfl
@[simp] theorem dNotV_ap (a : Env → Res D) (env : Env) : dNotV a env = (a env).bind fun x => match x with | .bl k => .ok (.bl (!k)) | _ => .err := rfl
@[simp] theorem dIfE_ap (t : Env → Res Bool) (a b : Env → Res D) (env : Env) : dIfE t a b env = (t env).bind fun k => ifB k a b env := by
  unfold dIfE; cases t env with
  | ok k => cases k <;> rfl
  | exc c fs => rfl
  | err => rfl
@[simp] theorem dLst_ap (l : Env → Res (List D)) (env : Env) : dLst l env = (l env).bind fun ds => if ds.length ≤ 16777216 then .ok (.lst ds) else .err := by unfold dLst; rw [sizeLine_eq]
@[simp] theorem dTup_ap (l : Env → Res (List D)) (env : Env) : dTup l env = (l env).bind fun ds => if ds.length ≤ 16777216 then .ok (.tup ds) else .err := by unfold dTup; rw [sizeLine_eq]
@[simp] theorem dPart_ap (a : Env → Res D) (env : Env) : dPart a env = (a env).bind fun d => match d with | .int i => .ok (some i) | _ => .err := rfl
@[simp] theorem dNoP_ap (env : Env) : dNoP env = .ok none := rfl
@[simp] theorem dSlice_ap (f : D → Option Int → Option Int → Option D) (a : Env → Res D) (l h : Env → Res (Option Int)) (env : Env) : dSlice f a l h env = (a env).bind fun x => (l env).bind fun lo => (h env).bind fun hi => op? (f x lo hi) := rfl
@[simp] theorem dCall_ap (n : Nat) (dfl : List D) (g : List D → Res D) (dl : Env → Res (List D)) (env : Env) : dCall n dfl g dl env = (dl env).bind fun ds => if ds.length + dfl.length = n then g (ds ++ dfl) else .err := rfl
@[simp] theorem dItL_lst (a : Env → Res D) (env : Env) : dItL a env = (a env).bind fun d => match d with | .lst ds => .ok ds | .scr ns => .ok (ns.map D.int) | _ => .err := rfl
@[simp] theorem dItT_ap (a : Env → Res D) (env : Env) : dItT a env = (a env).bind fun d => match d with | .tup ds => .ok ds | _ => .err := rfl
@[simp] theorem dItS_ap (a : Env → Res D) (env : Env) : dItS a env = (a env).bind fun d => match d with | .str z => .ok (signsD z) | _ => .err := rfl
@[simp] theorem dRng1_ap (a : Env → Res (List D)) (env : Env) : dRng1 a env = (a env).bind fun ds => match ds with | [.int j] => if j ≤ 1000000 ∧ -1000000000 ≤ j then .ok (rngD 0 j.toNat) else .err | _ => .err := rfl
@[simp] theorem dComp_ap (it : Env → Res (List D)) (tgt : Tg) (tst : Env → Res Bool) (elt : Env → Res D) (vs : List Nat) (env : Env) : dComp it tgt tst elt vs env = (it env).bind fun ds => match dCompL tgt.f tst elt (kills vs env) ds with | .ok xs => .ok (.lst xs) | _ => .err := rfl
@[simp] theorem dYes_ap (env : Env) : dYes env = .ok true := rfl
@[simp] theorem tgName_f (i : Nat) (d : D) (env : Env) : (tgName i).f d env = some (env.set i (.val d)) := rfl
@[simp] theorem tgTup_f (n : Nat) (r : List D → Env → Option Env) (sl : List Nat) (d : D) (env : Env) : (tgTup n r sl).f d env = match d with | .tup ds => if ds.length = n then r ds env else none | _ => none := rfl
@[simp] theorem tgsNil_ap (ds : List D) (env : Env) : tgsNil ds env = match ds with | [] => some env | _ => none := rfl
@[simp] theorem tgsCons_ap (t : Tg) (r : List D → Env → Option Env) (d : D) (ds : List D) (env : Env) : tgsCons t r (d :: ds) env = (t.f d env).bind fun e => r ds e := rfl
@[simp] theorem dLoop_nil (tgt : D → Env → Option Env) (body : Env → Out) (kl : Env → Env) (e : Env) : dLoop tgt body kl [] e = .nx e := rfl
@[simp] theorem dMut_ap (i : Nat) (f : List D → List D → Option (List D)) (dl : Env → Res (List D)) (env : Env) : dMut i f dl env = match env[i]? with
  | some (.own (.lst ds)) => (dl env).out env fun as => match f ds as with
    | some ds' => .nx (env.set i (.own (.lst ds')))
    | none => .err
  | _ => .err := by
  unfold dMut
  cases env[i]? with
  | none => rfl
  | some s => cases s with
    | un => rfl
    | val d => rfl
    | own d => cases d <;> first | rfl | (cases dl env <;> rfl)
@[simp] theorem outR_nx (e : Env) : outR (.nx e) = .ok .non := rfl
@[simp] theorem outR_ret (d : D) : outR (.ret d) = .ok d := rfl
@[simp] theorem outR_exc (e : Env) (c fs) : outR (.exc e c fs) = .exc c fs := rfl
/-! values -/
@[simp] theorem dAdd_int (i j : Int) : dAdd (.int i) (.int j) = some (.int (i + j)) := rfl
@[simp] theorem dSub_int (i j : Int) : dSub (.int i) (.int j) = some (.int (i - j)) := rfl
@[simp] theorem dMod_int (i j : Int) (h : 0 < j) : dMod (.int i) (.int j) = some (.int (i % j)) := by simp [dMod, dII, cMod, h]
theorem log_small {j : Nat} (h : j ≤ 1000000000000000000000000) : j.log2 < 9000 := by
  exact PySem.Flt.log2_lt_of (k := 9000) (by decide) (Nat.lt_of_le_of_lt h (Nat.lt_of_lt_of_le (by decide : 1000000000000000000000000 < 2 ^ 80) (Nat.pow_le_pow_right (by decide) (by decide))))
@[simp] theorem dFdiv_int (i j : Int) (h : 0 < j) (h2 : j ≤ 1000000000000000000000000) : dFdiv (.int i) (.int j) = some (.int (i / j)) := by
  have : j.natAbs.log2 < 9000 := log_small (by omega)
  simp [dFdiv, dII, cDiv, h, this]
@[simp] theorem dEq_int (i j : Int) : dEq (.int i) (.int j) = some (.bl (i == j)) := by simp [dEq, dEqB, D.py, PyData.depth, PyData.eqv]
@[simp] theorem dEq_str (i j : Str) : dEq (.str i) (.str j) = some (.bl (i == j)) := by simp [dEq, dEqB, D.py, PyData.depth, PyData.eqv]
@[simp] theorem dEq_bl (i j : Bool) : dEq (.bl i) (.bl j) = some (.bl (i == j)) := by simp [dEq, dEqB, D.py, PyData.depth, PyData.eqv]
@[simp] theorem dNe_int (i j : Int) : dNe (.int i) (.int j) = some (.bl (!(i == j))) := by simp [dNe, dEqB, D.py, PyData.depth, PyData.eqv]
@[simp] theorem dNe_str (i j : Str) : dNe (.str i) (.str j) = some (.bl (!(i == j))) := by simp [dNe, dEqB, D.py, PyData.depth, PyData.eqv]
@[simp] theorem dNe_bl (i j : Bool) : dNe (.bl i) (.bl j) = some (.bl (!(i == j))) := by simp [dNe, dEqB, D.py, PyData.depth, PyData.eqv]
@[simp] theorem dLt_int (i j : Int) : dLt (.int i) (.int j) = some (.bl (decide (i < j))) := rfl
@[simp] theorem dLe_int (i j : Int) : dLe (.int i) (.int j) = some (.bl (decide (i ≤ j))) := rfl
@[simp] theorem dGt_int (i j : Int) : dGt (.int i) (.int j) = some (.bl (decide (j < i))) := rfl
@[simp] theorem dGe_int (i j : Int) : dGe (.int i) (.int j) = some (.bl (decide (j ≤ i))) := rfl
@[simp] theorem dIs_bl (x : D) (k : Bool) : dIs x (.bl k) = some (.bl (x.isBl k)) := by cases x <;> rfl
@[simp] theorem dIs_non (x : D) : dIs x .non = some (.bl x.isNon) := by cases x <;> rfl
@[simp] theorem dIsNot_bl (x : D) (k : Bool) : dIsNot x (.bl k) = some (.bl (!x.isBl k)) := by cases x <;> rfl
@[simp] theorem dIsNot_non (x : D) : dIsNot x .non = some (.bl (!x.isNon)) := by cases x <;> rfl
@[simp] theorem isBl_bl (j k : Bool) : D.isBl k (.bl j) = (j == k) := rfl
@[simp] theorem bLen_str (z : Str) : bLen [.str z] = some (.int z.length) := rfl
@[simp] theorem bLen_lst (z : List D) : bLen [.lst z] = some (.int z.length) := rfl
@[simp] theorem bLen_tup (z : List D) : bLen [.tup z] = some (.int z.length) := rfl
@[simp] theorem bLen_scr (z : List Int) : bLen [.scr z] = some (.int z.length) := rfl
@[simp] theorem dIxV_lst (ds : List D) (i : Int) : dIxV (.lst ds) (.int i) = atI ds i := rfl
@[simp] theorem dIxV_tup (ds : List D) (i : Int) : dIxV (.tup ds) (.int i) = atI ds i := rfl
@[simp] theorem dIxV_scr (ns : List Int) (i : Int) : dIxV (.scr ns) (.int i) = (atI ns i).map D.int := rfl
@[simp] theorem dIxV_str (s : Str) (i : Int) : dIxV (.str s) (.int i) = (atI s.cps.toList i).map fun c => .str ⟨#[c]⟩ := rfl
theorem atI_get_nn {α : Type} {xs : List α} {i : Int} (h0 : 0 ≤ i) (h1 : i < xs.length) : atI xs i = xs[i.toNat]? := by
  unfold atI ixN; rw [if_pos h0, if_pos h1]; rfl
theorem atI_mem {α : Type} {xs : List α} {i : Int} (h0 : 0 ≤ i) (h1 : i < xs.length) : ∃ x, x ∈ xs ∧ atI xs i = some x := by
  have h : i.toNat < xs.length := by omega
  exact ⟨xs[i.toNat], List.getElem_mem h, by rw [atI_get_nn h0 h1]; simp [h]⟩
@[simp] theorem atI_0 {α : Type} (x : α) (xs : List α) : atI (x :: xs) 0 = some x := by simp [atI, ixN]
@[simp] theorem atI_1 {α : Type} (x y : α) (xs : List α) : atI (x :: y :: xs) 1 = some y := by
  rw [atI_get_nn (by decide) (by simp; omega)]; rfl
@[simp] theorem atI_2 {α : Type} (x y z : α) (xs : List α) : atI (x :: y :: z :: xs) 2 = some z := by
  rw [atI_get_nn (by decide) (by simp; omega)]; rfl
@[simp] theorem bIsB_ap (b : String) (d : D) : bIsB b d = if b ∈ tyKnown then (tyN d).map fun a => .bl (subB a b) else none := rfl
end Dn

/-! g.dens -/
namespace Lw
open PySem PySem.Spec PyProof.Rows L2 Dn
/-! what the defs do -/
def ce_is_name_0 : Dn.Env → Res D :=
 (dBin dIn (dPeek 1) (dC (.str "abcdefghijklmnopqrstuvwxyz")))
def body_is_name : Dn.Env → Out :=
 (dSeq (dIf (dOr (dNot (dTru (dUn (bIsB "str") (dPeek 0)))) (dOr (dT (dBin dLt (dBi bLen (dCons (dPeek 0) dNil)) (dC (.int 1)))) (dT (dBin dGt (dBi bLen (dCons (dPeek 0) dNil)) (dC (.int 8))))))
 (dRet (dC (.bl false)))
 dSkip)
 (dRet (dBi bAll (dCons (dComp (dItS (dVar 0)) (tgName 1) dYes ce_is_name_0 [1]) dNil))))
def den_is_name : List D → Res D := dFn 1 2 body_is_name
def body__law_nth : Dn.Env → Out :=
 (dRet (dIfE (dT (dBin dLt (dPeek 1) (dBi bLen (dCons (dPeek 0) dNil)))) (dBin dIxV (dPeek 0) (dPeek 1)) (dC (.int 0))))
def den__law_nth : List D → Res D := dFn 2 2 body__law_nth
def lb__law_called_0 : Dn.Env → Out :=
 (dSeq (dSet 2 (dBin dAdd (dBin dIxV (dC (.str "abcdefghijklmnopqrstuvwxyz")) (dBin dMod (dPeek 1) (dC (.int 26)))) (dPeek 2)))
 (dSet 1 (dBin dFdiv (dPeek 1) (dC (.int 26)))))
def body__law_called : Dn.Env → Out :=
 (dSeq (dIf (dT (dBin dEq (dBin dMod (dPeek 0) (dC (.int 2))) (dC (.int 0))))
 (dRet (dBin dIxV (dLst (dCons (dC (.str "a")) (dCons (dC (.str "b")) (dCons (dC (.str "c")) (dCons (dC (.str "ab")) (dCons (dC (.str "ba")) (dCons (dC (.str "aa")) (dCons (dC (.str "self")) (dCons (dC (.str "abcdefgh")) (dCons (dC (.str "z")) (dCons (dC (.str "zz")) dNil))))))))))) (dBin dMod (dBin dFdiv (dPeek 0) (dC (.int 2))) (dC (.int 10)))))
 dSkip)
 (dSeq (dSet 1 (dBin dFdiv (dPeek 0) (dC (.int 16))))
 (dSeq (dSet 2 (dC (.str "")))
 (dSeq (dFor (dRng1 (dCons (dBin dAdd (dC (.int 1)) (dBin dMod (dBin dFdiv (dPeek 0) (dC (.int 2))) (dC (.int 8)))) dNil)) (tgName 3)
 lb__law_called_0 (kills [3]))
 (dRet (dVar 2))))))
def den__law_called : List D → Res D := dFn 1 4 body__law_called
def body__law_thing : Dn.Env → Out :=
 (dSeq (dSet 1 (dCall 1 [] den__law_called (dCons (dBin dFdiv (dPeek 0) (dC (.int 20))) dNil)))
 (dSeq (dSet 2 (dBin dMod (dBin dFdiv (dPeek 0) (dC (.int 7))) (dBi bLen (dCons (dPeek 1) dNil))))
 (dSeq (dIf (dT (dBin dLt (dBin dMod (dPeek 0) (dC (.int 20))) (dC (.int 6))))
 (dRet (dTup (dCons (dVar 1) (dCons (dC (.bl true)) dNil))))
 dSkip)
 (dSeq (dIf (dT (dBin dLt (dBin dMod (dPeek 0) (dC (.int 20))) (dC (.int 13))))
 (dSeq (dSet 3 (dBin dIxV (dC (.str "A0 _-\n\t")) (dBin dSub (dBin dMod (dPeek 0) (dC (.int 20))) (dC (.int 6)))))
 (dSeq (dSet 4 (dBin dSub (dBin dAdd (dPeek 2) (dC (.int 1))) (dBin dMod (dBin dFdiv (dPeek 0) (dC (.int 20))) (dC (.int 2)))))
 (dRet (dTup (dCons (dBin dAdd (dBin dAdd (dSlice dSl (dPeek 1) dNoP (dPart (dVar 2))) (dPeek 3)) (dSlice dSl (dPeek 1) (dPart (dVar 4)) dNoP)) (dCons (dC (.bl false)) dNil))))))
 dSkip)
 (dSeq (dSet 5 (dLst (dCons (dC (.str "")) (dCons (dBin dAdd (dPeek 1) (dSlice dSl (dC (.str "abcdefgh")) (dPart (dVar 2)) dNoP)) (dCons (dC .non) (dCons (dC (.int 7)) (dCons (dBin dEq (dBin dMod (dBin dFdiv (dPeek 0) (dC (.int 20))) (dC (.int 2))) (dC (.int 1))) (dCons (dLst (dCons (dVar 1) dNil)) (dCons (dDisp [((dVar 1), (dVar 1))]) dNil)))))))))
 (dSeq (dSet 6 (dBin dIxV (dPeek 5) (dBin dSub (dBin dMod (dPeek 0) (dC (.int 20))) (dC (.int 13)))))
 (dRet (dTup (dCons (dVar 6) (dCons (dAndV (dUn (bIsB "str") (dPeek 6)) (dAndV (dBin dLt (dC (.int 0)) (dBi bLen (dCons (dPeek 6) dNil))) (dBin dLt (dBi bLen (dCons (dPeek 6) dNil)) (dC (.int 9))))) dNil))))))))))
def den__law_thing : List D → Res D := dFn 1 7 body__law_thing
def lb_law_0 : Dn.Env → Out :=
 (dSeq (dAsg (tgTup 2 (tgsCons (tgName 3) (tgsCons (tgName 4) tgsNil)) ((tgName 3).sl ++ ((tgName 4).sl ++ []))) (dCall 1 [] den__law_thing (dCons (dVar 2) dNil)))
 (dSeq (dSet 5 (dCall 1 [] den_is_name (dCons (dVar 3) dNil)))
 (dSeq (dIf (dOr (dNot (dTru (dUn (bIsB "bool") (dPeek 5)))) (dT (dBin dNe (dPeek 5) (dPeek 4))))
 (dRet (dC (.bl false)))
 dSkip)
 (dSeq (dIf (dAnd (dTru (dPeek 4)) (dOr (dT (dBin dIsNot (dCall 1 [] den_is_name (dCons (dTup (dCons (dVar 3) dNil)) dNil)) (dC (.bl false)))) (dT (dBin dIsNot (dCall 1 [] den_is_name (dCons (dUn mUpper (dVar 3)) dNil)) (dC (.bl false))))))
 (dRet (dC (.bl false)))
 dSkip)
 (dIf (dAnd (dTru (dPeek 4)) (dOr (dT (dBin dIsNot (dCall 1 [] den_is_name (dCons (dBin dAdd (dPeek 3) (dC (.str "\n"))) dNil)) (dC (.bl false)))) (dT (dBin dIsNot (dCall 1 [] den_is_name (dCons (dBin dAdd (dC (.str " ")) (dPeek 3)) dNil)) (dC (.bl false))))))
 (dRet (dC (.bl false)))
 dSkip)))))
def body_law : Dn.Env → Out :=
 (dSeq (dSet 1 (dBin dAdd (dSlice dSl (dPeek 0) dNoP (dPart (dC (.int 60)))) (dLst (dCons (dBin dAdd (dCall 2 [] den__law_nth (dCons (dVar 0) (dCons (dC (.int 0)) dNil))) (dC (.int 1))) (dCons (dC (.int 13)) (dCons (dC (.int 28)) dNil))))))
 (dSeq (dFor (dItL (dVar 1)) (tgName 2)
 lb_law_0 (kills [2, 3, 4, 5]))
 (dRet (dC (.bl true)))))
def den_law : List D → Res D := dFn 1 6 body_law
end Lw

/-! Pure.lean -/
namespace Dn
open L2 PySem
/-! general laws of loops and comprehensions -/
theorem dCompL_map {α : Type} {tgt : D → Env → Option Env} {tst : Env → Res Bool} {elt : Env → Res D} {e : Env} (emb : α → D) (p : α → Bool) (g : α → D) : ∀ (ts : List α),
    (∀ t ∈ ts, ∃ e1, tgt (emb t) e = some e1 ∧ tst e1 = .ok (p t) ∧ (p t = true → elt e1 = .ok (g t))) → dCompL tgt tst elt e (ts.map emb) = .ok ((ts.filter p).map g)
  | [], _ => rfl
  | t :: ts, h => by
    obtain ⟨e1, h1, h2, h3⟩ := h t List.mem_cons_self
    have ih := dCompL_map emb p g ts fun t ht => h t (List.mem_cons_of_mem _ ht)
    rw [List.map_cons]
    unfold dCompL
    rw [h1]
    simp only [h2]
    cases z : p t with
    | false => simp only [z]; rw [ih, List.filter_cons_of_neg (by simp [z])]
    | true => simp only [z, h3 z, ih]; rw [List.filter_cons_of_pos z, List.map_cons]
theorem dCompL_all {α : Type} {tgt : D → Env → Option Env} {elt : Env → Res D} {e : Env} (emb : α → D) (g : α → D) (ts : List α)
    (h : ∀ t ∈ ts, ∃ e1, tgt (emb t) e = some e1 ∧ elt e1 = .ok (g t)) : dCompL tgt dYes elt e (ts.map emb) = .ok (ts.map g) := by
  have := dCompL_map (tst := dYes) emb (fun _ => true) g ts fun t ht => let ⟨e1, a, b⟩ := h t ht; ⟨e1, a, rfl, fun _ => b⟩
  rw [this, List.filter_eq_self.mpr fun _ _ => rfl]
theorem dLoop_const {α : Type} {tgt : D → Env → Option Env} {body : Env → Out} {kl : Env → Env} {e : Env} (emb : α → D) : ∀ (ts : List α),
    (∀ t ∈ ts, ∃ e1 e2, tgt (emb t) e = some e1 ∧ (body e1 = .nx e2 ∨ body e1 = .ct e2) ∧ kl e2 = e) → dLoop tgt body kl (ts.map emb) e = .nx e
  | [], _ => rfl
  | t :: ts, h => by
    obtain ⟨e1, e2, h1, h2, h3⟩ := h t List.mem_cons_self
    have ih := dLoop_const emb ts fun t ht => h t (List.mem_cons_of_mem _ ht)
    rw [List.map_cons]
    unfold dLoop
    rw [h1]
    rcases h2 with h2 | h2 <;> simp only [h2, h3, ih]
theorem bools_map {α : Type} (f : α → Bool) : ∀ ts : List α, bools (ts.map fun t => D.bl (f t)) = some (ts.map f)
  | [] => rfl
  | t :: ts => by simp [bools, bools_map f ts]
theorem bAll_map {α : Type} (f : α → Bool) (ts : List α) : bAll [.lst (ts.map fun t => D.bl (f t))] = some (.bl (ts.all f)) := by
  simp [bAll, bools_map f ts, List.all_map]
theorem bAny_map {α : Type} (f : α → Bool) (ts : List α) : bAny [.lst (ts.map fun t => D.bl (f t))] = some (.bl (ts.any f)) := by
  simp [bAny, bools_map f ts, List.any_map]
/-! names -/
def letters : Str := "abcdefghijklmnopqrstuvwxyz"
def isLet (c : Nat) : Bool := decide (c ∈ letters.cps)
def isNm (s : Str) : Bool := decide (1 ≤ s.length) && (decide (s.length ≤ 8) && s.cps.all isLet)
theorem letters_eq : letters.cps.toList = List.range' 97 26 := by decide +kernel
theorem isLet_iff (c : Nat) : isLet c = true ↔ 97 ≤ c ∧ c < 123 := by
  unfold isLet; rw [decide_eq_true_iff, ← Array.mem_toList_iff, letters_eq, List.mem_range'_1]
theorem str_ext {a b : Str} (h : a.cps.toList = b.cps.toList) : a = b := by
  cases a; cases b; congr; exact Array.ext' (by simpa using h)
theorem str_len (a : Str) : a.length = a.cps.toList.length := by simp [Str.length]
theorem sub1_sign (c : Nat) (z : Str) : dIn (.str ⟨#[c]⟩) (.str z) = some (.bl (decide (c ∈ z.cps.toList))) := by
  simp [dIn, dInB, D.sub1]
end Dn
namespace Lw
open Dn L2 PySem
theorem is_name_str (s : Str) : den_is_name [.str s] = .ok (.bl (isNm s)) := by
  have hc : dCompL (tgName 1).f dYes ce_is_name_0 [.val (.str s), .un] (signsD s) = .ok (s.cps.toList.map fun c => D.bl (isLet c)) :=
    dCompL_all (fun c => D.str ⟨#[c]⟩) _ _ fun c _ => ⟨_, rfl, by simp [ce_is_name_0, sub1_sign]; rfl⟩
  have hs : subB "str" "str" = true := by decide
  have hk : "str" ∈ tyKnown := by decide
  unfold isNm
  by_cases h1 : s.length < 1
  · have e1 : decide ((s.length : Int) < 1) = true := decide_eq_true (by omega)
    simp [den_is_name, dFn, body_is_name, env0, tyN, hs, hk, e1]; omega
  · have e1 : decide ((s.length : Int) < 1) = false := decide_eq_false (by omega)
    by_cases h2 : 8 < s.length
    · have e2 : decide ((8 : Int) < s.length) = true := decide_eq_true (by omega)
      simp [den_is_name, dFn, body_is_name, env0, tyN, hs, hk, e1, e2]; omega
    · have e2 : decide ((8 : Int) < s.length) = false := decide_eq_false (by omega)
      have e3 : 1 ≤ s.length := by omega
      have e4 : s.length ≤ 8 := by omega
      simp [den_is_name, dFn, body_is_name, env0, tyN, hs, hk, e1, e2, hc, bAll_map, e3, e4]

theorem is_name_other (d : D) (a : String) (h : tyN d = some a) (hn : (a == "str") = false) (hb : subB a "str" = false) : den_is_name [d] = .ok (.bl false) := by
  have hk : "str" ∈ tyKnown := by decide
  simp [den_is_name, dFn, body_is_name, env0, h, hk, hb]
theorem nm_iff (s : Str) : isNm s = true ↔ 1 ≤ s.length ∧ s.length ≤ 8 ∧ ∀ c ∈ s.cps.toList, isLet c = true := by
  unfold isNm
  rw [Bool.and_eq_true, Bool.and_eq_true, decide_eq_true_iff, decide_eq_true_iff, Array.all_eq_true_iff_forall_mem]
  simp
theorem app_cps (a b : Str) : (a ++ b).cps.toList = a.cps.toList ++ b.cps.toList := by
  show (a.cps ++ b.cps).toList = _; simp
theorem app_len (a b : Str) : (a ++ b).length = a.length + b.length := by
  show (a.cps ++ b.cps).size = _; simp [Str.length]
/-- the loop that writes letters -/
theorem called_loop (x : Slot) : ∀ (ds : List D) (r : Int) (s : Str), s.length + ds.length ≤ 1000 → (∀ c ∈ s.cps.toList, isLet c = true) → ∃ (r' : Int) (s' : Str), s'.length = s.length + ds.length ∧ (∀ c ∈ s'.cps.toList, isLet c = true) ∧
    dLoop (tgName 3).f lb__law_called_0 (kills [3]) ds [x, .val (.int r), .val (.str s), .un] = .nx [x, .val (.int r'), .val (.str s'), .un]
  | [], r, s, _, hs => ⟨r, s, by simp, hs, rfl⟩
  | d :: ds, r, s, hl, hs => by
    have h26 : (26 : Int) = (letters.cps.toList.length : Int) := by decide +kernel
    obtain ⟨c, hc, ha⟩ := atI_mem (xs := letters.cps.toList) (i := r % 26) (Int.emod_nonneg _ (by decide)) (by rw [← h26]; exact Int.emod_lt_of_pos _ (by decide))
    have hn : ∀ k ∈ ((⟨#[c]⟩ : Str) ++ s).cps.toList, isLet k = true := fun k hk => by
      rw [app_cps] at hk
      rcases List.mem_append.mp hk with z | z
      · have : k = c := by simpa using z
        subst this
        unfold isLet; exact decide_eq_true (by simpa using hc)
      · exact hs k z
    have hl3 : ((⟨#[c]⟩ : Str) ++ s).length = 1 + s.length := by rw [app_len]; rfl
    simp only [List.length_cons] at hl
    obtain ⟨r', s', h1, h2, h3⟩ := called_loop x ds (r / 26) (⟨#[c]⟩ ++ s) (by omega) hn
    refine ⟨r', s', by rw [h1, hl3]; simp; omega, h2, ?_⟩
    rw [← h3]
    have ha' : atI (Str.ofString "abcdefghijklmnopqrstuvwxyz").cps.toList (r % 26) = some c := ha
    have hadd : dAdd (.str ⟨#[c]⟩) (.str s) = some (.str (⟨#[c]⟩ ++ s)) := by
      unfold dAdd; simp only; rw [if_pos (by rw [sizeLine_eq]; show 1 + s.length ≤ _; omega)]
    conv => lhs; unfold dLoop
    simp [lb__law_called_0, ha', hadd]

theorem rng_len (lo : Int) (n : Nat) : (rngD lo n).length = n := by simp [rngD]
/-- a name comes of any cell -/
theorem called_ok (c : Int) : ∃ s, den__law_called [.int c] = .ok (.str s) ∧ isNm s = true := by
  by_cases h : c % 2 = 0
  · have hall : ∀ d ∈ [D.str (Str.ofString "a"), D.str (Str.ofString "b"), D.str (Str.ofString "c"), D.str (Str.ofString "ab"), D.str (Str.ofString "ba"), D.str (Str.ofString "aa"), D.str (Str.ofString "self"), D.str (Str.ofString "abcdefgh"), D.str (Str.ofString "z"), D.str (Str.ofString "zz")], ∃ s, d = D.str s ∧ isNm s = true := by
      intro d hd
      simp only [List.mem_cons, List.not_mem_nil, or_false] at hd
      rcases hd with h | h | h | h | h | h | h | h | h | h <;> exact ⟨_, h, by decide +kernel⟩
    obtain ⟨d, hd, ha⟩ := atI_mem (xs := [D.str (Str.ofString "a"), D.str (Str.ofString "b"), D.str (Str.ofString "c"), D.str (Str.ofString "ab"), D.str (Str.ofString "ba"), D.str (Str.ofString "aa"), D.str (Str.ofString "self"), D.str (Str.ofString "abcdefgh"), D.str (Str.ofString "z"), D.str (Str.ofString "zz")]) (i := c / 2 % 10) (Int.emod_nonneg _ (by decide)) (Int.emod_lt_of_pos _ (by decide))
    obtain ⟨s, rfl, hs⟩ := hall d hd
    exact ⟨s, by simp [den__law_called, dFn, body__law_called, env0, h, ha], hs⟩
  · have h1 : (c % 2 == 0) = false := by simpa using h
    have hb : 0 ≤ c / 2 % 8 := Int.emod_nonneg _ (by decide)
    have hb2 : c / 2 % 8 < 8 := Int.emod_lt_of_pos _ (by decide)
    obtain ⟨r', s', e1, e2, e3⟩ := called_loop (.val (.int c)) (rngD 0 (1 + c / 2 % 8).toNat) (c / 16) (Str.ofString "") (by rw [rng_len]; show 0 + _ ≤ _; omega) (by intro k hk; cases hk)
    refine ⟨s', ?_, (nm_iff s').mpr ⟨?_, ?_, e2⟩⟩
    · have hr : (1 + c / 2 % 8 ≤ 1000000 ∧ -1000000000 ≤ 1 + c / 2 % 8) := by omega
      simp [den__law_called, dFn, body__law_called, env0, h1, hr, e3]
    · rw [e1, rng_len]; show 1 ≤ 0 + _; omega
    · rw [e1, rng_len]; show 0 + _ ≤ 8; omega

theorem add_str {a b : Str} (h : a.length + b.length ≤ 10000) : dAdd (.str a) (.str b) = some (.str (a ++ b)) := by
  unfold dAdd; simp only; rw [if_pos (Nat.le_trans h (by rw [sizeLine_eq]; decide))]
theorem cutS_len (z : Str) (lo hi : Option Int) : (cutS z lo hi).length ≤ z.length := by
  show (((z.cps.toList.drop (HT.sIx z.length 0 lo)).take (HT.sIx z.length z.length hi - HT.sIx z.length 0 lo)).toArray).size ≤ z.cps.size
  rw [List.size_toArray, List.length_take, List.length_drop, Array.length_toList]
  omega
theorem cutS_mem {z : Str} {lo hi : Option Int} {c : Nat} (h : c ∈ (cutS z lo hi).cps.toList) : c ∈ z.cps.toList := by
  have h : c ∈ (z.cps.toList.drop (HT.sIx z.length 0 lo)).take (HT.sIx z.length z.length hi - HT.sIx z.length 0 lo) := by simpa [cutS] using h
  exact List.mem_of_mem_drop (List.mem_of_mem_take h)
theorem not_nm {s : Str} {c : Nat} (h : c ∈ s.cps.toList) (hc : isLet c = false) : isNm s = false := by
  cases z : isNm s with
  | false => rfl
  | true => have := ((nm_iff s).mp z).2.2 c h; rw [hc] at this; cases this
theorem tyN_dicOf (m : KD) : tyN (D.dicOf m) = some "dict" := rfl
def Good (d : D) (due : Bool) : Prop := (∃ s, d = .str s ∧ due = isNm s ∧ s.length ≤ 20) ∨ (due = false ∧ ∃ a, tyN d = some a ∧ (a == "str") = false ∧ subB a "str" = false)
theorem signs_ok : ∀ k ∈ (Str.ofString "A0 _-\n\t").cps.toList, isLet k = false := by decide +kernel
theorem thing_ok (c : Int) : ∃ d due, den__law_thing [.int c] = .ok (.tup [d, .bl due]) ∧ Good d due := by
  obtain ⟨s, h1, hs⟩ := called_ok (c / 20)
  obtain ⟨l1, l8, lets⟩ := (nm_iff s).mp hs
  have hm : dMod (.int (c / 7)) (.int (s.length : Int)) = some (.int (c / 7 % s.length)) := dMod_int _ _ (by omega)
  have k1 : ("str" ∈ tyKnown) := by decide
  have sb : subB "str" "str" = true := by decide
  by_cases a1 : c % 20 < 6
  · exact ⟨.str s, true, by simp [den__law_thing, dFn, body__law_thing, env0, h1, hm, a1], .inl ⟨s, rfl, hs.symm, by omega⟩⟩
  · have b0 : 0 ≤ c % 20 := Int.emod_nonneg _ (by decide)
    have b1 : c % 20 < 20 := Int.emod_lt_of_pos _ (by decide)
    by_cases a2 : c % 20 < 13
    · obtain ⟨k, hk, ha⟩ := atI_mem (xs := (Str.ofString "A0 _-\n\t").cps.toList) (i := c % 20 - 6) (by omega) (by
        have h7 : ((Str.ofString "A0 _-\n\t").cps.toList.length : Int) = 7 := by decide +kernel
        omega)
      have kn := signs_ok k hk
      have q1 := cutS_len s none (some (c / 7 % s.length))
      have q2 := cutS_len s (some (c / 7 % s.length + 1 - c / 20 % 2)) none
      have d1 : dAdd (.str (cutS s none (some (c / 7 % s.length)))) (.str ⟨#[k]⟩) = some (.str (cutS s none (some (c / 7 % s.length)) ++ ⟨#[k]⟩)) := add_str (by show _ + 1 ≤ _; omega)
      have q3 : (cutS s none (some (c / 7 % s.length)) ++ (⟨#[k]⟩ : Str)).length ≤ 9 := by rw [app_len]; show _ + 1 ≤ _; omega
      have d2 := add_str (a := cutS s none (some (c / 7 % s.length)) ++ ⟨#[k]⟩) (b := cutS s (some (c / 7 % s.length + 1 - c / 20 % 2)) none) (by omega)
      refine ⟨_, false, by simp [den__law_thing, dFn, body__law_thing, env0, h1, hm, a1, a2, ha, dSl, d1, d2]; rfl, .inl ⟨_, rfl, ?_, ?_⟩⟩
      · exact (not_nm (c := k) (by rw [app_cps, app_cps]; simp) kn).symm
      · rw [app_len]; omega
    · have o : ∃ d, atI [D.str (Str.ofString ""), D.str (s ++ cutS (Str.ofString "abcdefgh") (some (c / 7 % s.length)) none), D.non, D.int 7, D.bl (c / 20 % 2 == 1), D.lst [D.str s], D.dicOf [(.inr s, .str s)]] (c % 20 - 13) = some d ∧ d ∈ [D.str (Str.ofString ""), D.str (s ++ cutS (Str.ofString "abcdefgh") (some (c / 7 % s.length)) none), D.non, D.int 7, D.bl (c / 20 % 2 == 1), D.lst [D.str s], D.dicOf [(.inr s, .str s)]] := by
        obtain ⟨d, hd, ha⟩ := atI_mem (xs := [D.str (Str.ofString ""), D.str (s ++ cutS (Str.ofString "abcdefgh") (some (c / 7 % s.length)) none), D.non, D.int 7, D.bl (c / 20 % 2 == 1), D.lst [D.str s], D.dicOf [(.inr s, .str s)]]) (i := c % 20 - 13) (by omega) (by simp; omega)
        exact ⟨d, ha, hd⟩
      obtain ⟨d, ha, hd⟩ := o
      have q2 := cutS_len (Str.ofString "abcdefgh") (some (c / 7 % s.length)) none
      have q2' : (cutS (Str.ofString "abcdefgh") (some (c / 7 % s.length)) none).length ≤ 8 := Nat.le_trans q2 (by decide +kernel)
      have d1 := add_str (a := s) (b := cutS (Str.ofString "abcdefgh") (some (c / 7 % s.length)) none) (by omega)
      have dd : dDisp [(dVar 1, dVar 1)] [.val (.int c), .val (.str s), .val (.int (c / 7 % s.length)), .un, .un, .un, .un] = .ok (D.dicOf [(.inr s, .str s)]) := by
        simp [dDisp, dPairs, keyD, putD]
      have hal : ∀ k ∈ (s ++ cutS (Str.ofString "abcdefgh") (some (c / 7 % s.length)) none).cps.toList, isLet k = true := fun k hk => by
        rw [app_cps] at hk
        rcases List.mem_append.mp hk with z | z
        · exact lets k z
        · have := cutS_mem z
          have all : ∀ k ∈ (Str.ofString "abcdefgh").cps.toList, isLet k = true := by decide +kernel
          exact all k this
      have dueS : ∀ z : Str, (∀ k ∈ z.cps.toList, isLet k = true) → isNm z = (decide (1 ≤ z.length) && decide (z.length ≤ 8)) := fun z hz => by
        unfold isNm
        have : z.cps.all isLet = true := Array.all_eq_true_iff_forall_mem.mpr (by simpa using hz)
        rw [this, Bool.and_true]
      have e0 : (Str.ofString "").length = 0 := by decide +kernel
      simp only [List.mem_cons, List.not_mem_nil, or_false] at hd
      rcases hd with rfl | rfl | rfl | rfl | rfl | rfl | rfl
      · exact ⟨_, false, by simp [den__law_thing, dFn, body__law_thing, env0, h1, hm, a1, a2, ha, dSl, d1, dd, k1, sb, tyN, e0]; rfl, .inl ⟨_, rfl, by decide +kernel, by decide +kernel⟩⟩
      · refine ⟨_, isNm (s ++ cutS (Str.ofString "abcdefgh") (some (c / 7 % s.length)) none), ?_, .inl ⟨_, rfl, rfl, by rw [app_len]; omega⟩⟩
        rw [dueS _ hal]
        have p1 : 1 ≤ (s ++ cutS (Str.ofString "abcdefgh") (some (c / 7 % s.length)) none).length := by rw [app_len]; omega
        have p2 : 0 < (s ++ cutS (Str.ofString "abcdefgh") (some (c / 7 % s.length)) none).length := by omega
        have p3 : decide (((s ++ cutS (Str.ofString "abcdefgh") (some (c / 7 % s.length)) none).length : Int) < 9) = decide ((s ++ cutS (Str.ofString "abcdefgh") (some (c / 7 % s.length)) none).length ≤ 8) := by
          rw [decide_eq_decide]; omega
        simp [den__law_thing, dFn, body__law_thing, env0, h1, hm, a1, a2, ha, dSl, d1, dd, k1, sb, tyN, p2, p3, p1]
      · exact ⟨_, false, by simp [den__law_thing, dFn, body__law_thing, env0, h1, hm, a1, a2, ha, dSl, d1, dd, k1, tyN, subB]; rfl, .inr ⟨rfl, _, rfl, by decide, by decide⟩⟩
      · exact ⟨_, false, by simp [den__law_thing, dFn, body__law_thing, env0, h1, hm, a1, a2, ha, dSl, d1, dd, k1, tyN, subB]; rfl, .inr ⟨rfl, _, rfl, by decide, by decide⟩⟩
      · exact ⟨_, false, by simp [den__law_thing, dFn, body__law_thing, env0, h1, hm, a1, a2, ha, dSl, d1, dd, k1, tyN, subB]; rfl, .inr ⟨rfl, _, rfl, by decide, by decide⟩⟩
      · exact ⟨_, false, by simp [den__law_thing, dFn, body__law_thing, env0, h1, hm, a1, a2, ha, dSl, d1, dd, k1, tyN, subB]; rfl, .inr ⟨rfl, _, rfl, by decide, by decide⟩⟩
      · exact ⟨_, false, by simp [den__law_thing, dFn, body__law_thing, env0, h1, hm, a1, a2, ha, dSl, d1, dd, k1, tyN_dicOf, subB]; rfl, .inr ⟨rfl, "dict", rfl, by decide, by decide⟩⟩

theorem nth_ok (ns : List Int) (k : Int) (h : 0 ≤ k) : ∃ z, den__law_nth [.scr ns, .int k] = .ok (.int z) := by
  by_cases hk : k < ns.length
  · obtain ⟨z, _, ha⟩ := atI_mem h hk
    exact ⟨z, by simp [den__law_nth, dFn, body__law_nth, env0, hk, ha]⟩
  · exact ⟨0, by simp [den__law_nth, dFn, body__law_nth, env0, hk]⟩
theorem upper_nm {s : Str} (hs : isNm s = true) : mUpper (.str s) = some (.str (Txt.upper s)) ∧ isNm (Txt.upper s) = false := by
  obtain ⟨l1, l8, lets⟩ := (nm_iff s).mp hs
  have hb : ∀ c ∈ s.cps.toList, c < 128 := fun c hc => by have := (isLet_iff c).mp (lets c hc); omega
  have e : Txt.upper s = ⟨s.cps.map PyProof.Rows.up1⟩ := PyProof.Rows.upper_ascii hb
  have el : (Txt.upper s).length = s.length := by rw [e]; simp [Str.length]
  refine ⟨?_, ?_⟩
  · unfold mUpper
    simp only
    rw [if_pos]
    refine ⟨by omega, sOk_mk (by rw [el, sizeLine_eq]; omega) fun c hc => ?_⟩
    rw [e] at hc
    obtain ⟨a, ha, rfl⟩ : ∃ a, a ∈ s.cps.toList ∧ PyProof.Rows.up1 a = c := by simpa using hc
    have := hb a ha
    unfold PyProof.Rows.up1; split <;> omega
  · have h0 : 0 < s.cps.toList.length := by rw [← str_len]; omega
    have hm : s.cps.toList[0] ∈ s.cps.toList := List.getElem_mem h0
    refine not_nm (c := PyProof.Rows.up1 s.cps.toList[0]) (by rw [e]; simpa using ⟨_, by simpa using hm, rfl⟩) ?_
    have h1 := (isLet_iff _).mp (lets _ hm)
    cases z : isLet (PyProof.Rows.up1 s.cps.toList[0]) with
    | false => rfl
    | true =>
      have h2 := (isLet_iff _).mp z
      unfold PyProof.Rows.up1 at h2
      rw [if_pos (by omega)] at h2
      omega
theorem nl_nm (s : Str) : isNm (s ++ Str.ofString "\n") = false := not_nm (c := 10) (by rw [app_cps]; exact List.mem_append_right _ (by decide +kernel)) (by decide +kernel)
theorem bl_nm (s : Str) : isNm (Str.ofString " " ++ s) = false := not_nm (c := 32) (by rw [app_cps]; exact List.mem_append_left _ (by decide +kernel)) (by decide +kernel)
theorem turn_ok (x y : Slot) (c : Int) : ∃ a b z, lb_law_0 [x, y, .val (.int c), .un, .un, .un] = .nx [x, y, .val (.int c), a, b, z] := by
  obtain ⟨d, due, h1, g⟩ := thing_ok c
  have k1 : ("bool" ∈ tyKnown) := by decide
  have k2 : subB "bool" "bool" = true := by decide
  have one : ([D.non].length = 1) := rfl
  rcases g with ⟨s, rfl, rfl, hl⟩ | ⟨rfl, a, ht, hn, hb⟩
  · refine ⟨.val (.str s), .val (.bl (isNm s)), .val (.bl (isNm s)), ?_⟩
    cases z : isNm s with
    | false => simp [lb_law_0, h1, is_name_str, z, tyN, k1, k2]
    | true =>
      obtain ⟨u1, u2⟩ := upper_nm z
      have t1 : den_is_name [.tup [.str s]] = .ok (.bl false) := is_name_other _ _ rfl (by decide) (by decide)
      have d1 : dAdd (.str s) (.str (Str.ofString "\n")) = some (.str (s ++ Str.ofString "\n")) := add_str (by
        have h7 : (Str.ofString "\n").length = 1 := by decide +kernel
        omega)
      have d2 : dAdd (.str (Str.ofString " ")) (.str s) = some (.str (Str.ofString " " ++ s)) := add_str (by
        have h7 : (Str.ofString " ").length = 1 := by decide +kernel
        omega)
      simp [lb_law_0, h1, is_name_str, z, tyN, k1, k2, t1, u1, u2, d1, d2, nl_nm, bl_nm]
  · refine ⟨.val d, .val (.bl false), .val (.bl false), ?_⟩
    simp [lb_law_0, h1, is_name_other d a ht hn hb, tyN, k1, k2]
theorem law_true (ns : List Int) (hl : ns.length ≤ 63) : den_law [.scr ns] = .ok (.bl true) := by
  obtain ⟨z, hz⟩ := nth_ok ns 0 (by decide)
  have h1 : dAdd (.lst ((cutD ns none (some 60)).map D.int)) (.lst [.int (z + 1), .int 13, .int 28]) = some (.lst ((cutD ns none (some 60) ++ [z + 1, 13, 28]).map D.int)) := by
    unfold dAdd
    simp only
    rw [if_pos]
    · simp
    · have := cutD_length ns none (some 60)
      rw [List.length_map, sizeLine_eq]; simp; omega
  have h2 : dLoop (tgName 2).f lb_law_0 (kills [2, 3, 4, 5]) ((cutD ns none (some 60) ++ [z + 1, 13, 28]).map D.int) [.val (.scr ns), .val (.lst ((cutD ns none (some 60) ++ [z + 1, 13, 28]).map D.int)), .un, .un, .un, .un] = .nx [.val (.scr ns), .val (.lst ((cutD ns none (some 60) ++ [z + 1, 13, 28]).map D.int)), .un, .un, .un, .un] := by
    refine dLoop_const D.int _ fun t _ => ?_
    obtain ⟨a, b, c, e⟩ := turn_ok (.val (.scr ns)) (.val (.lst ((cutD ns none (some 60) ++ [z + 1, 13, 28]).map D.int))) t
    exact ⟨_, _, rfl, .inl e, rfl⟩
  have hs : dSl (.scr ns) none (some 60) = some (.lst ((cutD ns none (some 60)).map D.int)) := rfl
  simp only [List.map_append, List.map_cons, List.map_nil] at h1 h2
  simp [den_law, dFn, body_law, env0, hz, hs, h1, h2]
end Lw

/-! g.walks -/
namespace Lw
open PySem PySem.Spec PyProof.Rows L2 Dn
def top (i : Nat) : Stmt := PySem.Challenge.pw_callbinds_k11_names.main.body.getD i (.Pass ⟨0, 0, 0, 0⟩)
abbrev s_is_name : Stmt := top 3
abbrev n_is_name : List Str := ["thing", "sign"]
abbrev p_is_name : List Str := ["thing"]
abbrev s__law_nth : Stmt := top 5
abbrev n__law_nth : List Str := ["script", "k"]
abbrev p__law_nth : List Str := ["script", "k"]
abbrev s__law_called : Stmt := top 6
abbrev n__law_called : List Str := ["cell", "rest", "found", "k"]
abbrev p__law_called : List Str := ["cell"]
abbrev s__law_thing : Stmt := top 7
abbrev n__law_thing : List Str := ["cell", "name", "at", "sign", "behind", "odd", "some"]
abbrev p__law_thing : List Str := ["cell"]
abbrev s_law : Stmt := top 8
abbrev n_law : List Str := ["script", "cells", "cell", "thing", "due", "found"]
abbrev p_law : List Str := ["script"]
structure Tx (K : PySem.W.Frag) (mg : Str → Option Value) where
  a_is_name : Addr
  d_is_name : FuncData
  u_is_name : Fun K "is_name" "is_name" s_is_name a_is_name d_is_name
  b_is_name : Binds K d_is_name p_is_name []
  m_is_name : mg "is_name" = some (.ref a_is_name)
  a__law_nth : Addr
  d__law_nth : FuncData
  u__law_nth : Fun K "_law_nth" "_law_nth" s__law_nth a__law_nth d__law_nth
  b__law_nth : Binds K d__law_nth p__law_nth []
  m__law_nth : mg "_law_nth" = some (.ref a__law_nth)
  a__law_called : Addr
  d__law_called : FuncData
  u__law_called : Fun K "_law_called" "_law_called" s__law_called a__law_called d__law_called
  b__law_called : Binds K d__law_called p__law_called []
  m__law_called : mg "_law_called" = some (.ref a__law_called)
  a__law_thing : Addr
  d__law_thing : FuncData
  u__law_thing : Fun K "_law_thing" "_law_thing" s__law_thing a__law_thing d__law_thing
  b__law_thing : Binds K d__law_thing p__law_thing []
  m__law_thing : mg "_law_thing" = some (.ref a__law_thing)
  a_law : Addr
  d_law : FuncData
  u_law : Fun K "law" "law" s_law a_law d_law
  b_law : Binds K d_law p_law []
  m_law : mg "law" = some (.ref a_law)
  z_all : mg "all" = none
  z_bool : mg "bool" = none
  z_isinstance : mg "isinstance" = none
  z_len : mg "len" = none
  z_range : mg "range" = none
  z_str : mg "str" = none
  t_LONGEST : Tok
  g_LONGEST : mg "LONGEST" = some (.int 8 t_LONGEST)
  t_LETTERS : Tok
  g_LETTERS : mg "LETTERS" = some (.str "abcdefghijklmnopqrstuvwxyz" t_LETTERS)
section
variable {P : Program} {w : World} {K : PySem.W.Frag} {mg : Str → Option Value} {base : Heap}
def Tx.Γ (_ : Tx K mg) : Gm := ⟨K, fun _ => 0, fun _ => []⟩
theorem sc_is_name : FnScope n_is_name p_is_name (defScope s_is_name) := ⟨rfl, rfl, rfl, by decide +kernel, rfl, by decide +kernel, by decide +kernel⟩
theorem ok_is_name (T : Tx K mg) : FnOk P w K mg base (L2.CX P w) 1 T.a_is_name T.d_is_name p_is_name (spD T.Γ 1 den_is_name) := by
  refine fn_ok (Γ := T.Γ) (k := 0) T.u_is_name sc_is_name fun cdv A outer s H E hr => ?_
  exact (ss_cons (s_if (PW.pt (t_or (t_not (t_tru (by rfl) (w_e (e_isB (b := "str") (by rfl) (by rfl) T.z_isinstance (w_peek (pv 0)) (by rfl) T.z_str (by decide +kernel))))) (t_or (t_lt (w_e (e_len (by rfl) (by rfl) T.z_len (aw_cons (w_peek (pv 0)) aw_nil))) (w_e e_int)) (t_or1 (t_gt (w_e (e_len (by rfl) (by rfl) T.z_len (aw_cons (w_peek (pv 0)) aw_nil))) (w_e (e_gint (by rfl) T.g_LONGEST)))))))
 (ss_one (s_ret e_bl))
 ss_nil)
 (ss_one (s_ret (e_all (by rfl) (by rfl) (by rfl) T.z_all (aw_cons (w_n (n_comp (by rfl) sc_is_name.nd (i_str (e_var (pv 0))) (blkOk_by (own := [("sign", 1)]) (N := n_is_name) (sc := defScope s_is_name) (by decide +kernel)) (by decide) (fun _ _ _ _ _ => (g_name (pg_name (i := 1) sc_is_name.nd (by rfl) (by first | exact Or.inl rfl | exact Or.inr rfl)))) (fun _ _ _ _ _ => q_nil) (fun _ _ _ _ _ => (e_in (by rfl) hr.units (w_peek (pv 1)) (w_e (e_gstr (by rfl) T.g_LETTERS)))))) aw_nil)))))
theorem sc__law_nth : FnScope n__law_nth p__law_nth (defScope s__law_nth) := ⟨rfl, rfl, rfl, by decide +kernel, rfl, by decide +kernel, by decide +kernel⟩
theorem ok__law_nth (T : Tx K mg) : FnOk P w K mg base (L2.CX P w) 1 T.a__law_nth T.d__law_nth p__law_nth (spD T.Γ 2 den__law_nth) := by
  refine fn_ok (Γ := T.Γ) (k := 0) T.u__law_nth sc__law_nth fun cdv A outer s H E hr => ?_
  exact (ss_one (s_ret (e_if (t_lt (w_peek (pv 1)) (w_e (e_len (by rfl) (by rfl) T.z_len (aw_cons (w_peek (pv 0)) aw_nil)))) (e_ix (by rfl) (w_peek (pv 0)) (w_peek (pv 1))) e_int)))
theorem sc__law_called : FnScope n__law_called p__law_called (defScope s__law_called) := ⟨rfl, rfl, rfl, by decide +kernel, rfl, by decide +kernel, by decide +kernel⟩
theorem ok__law_called (T : Tx K mg) : FnOk P w K mg base (L2.CX P w) 1 T.a__law_called T.d__law_called p__law_called (spD T.Γ 1 den__law_called) := by
  refine fn_ok (Γ := T.Γ) (k := 0) T.u__law_called sc__law_called fun cdv A outer s H E hr => ?_
  exact (ss_cons (s_if (t_eq (by rfl) hr.units (w_e (e_mod (w_peek (pv 0)) (w_e e_int))) (w_e e_int))
 (ss_one (s_ret (e_ix (by rfl) (w_n (n_lst (a_cons (e_str (by decide +kernel)) (a_cons (e_str (by decide +kernel)) (a_cons (e_str (by decide +kernel)) (a_cons (e_str (by decide +kernel)) (a_cons (e_str (by decide +kernel)) (a_cons (e_str (by decide +kernel)) (a_cons (e_str (by decide +kernel)) (a_cons (e_str (by decide +kernel)) (a_cons (e_str (by decide +kernel)) (a_cons (e_str (by decide +kernel)) a_nil)))))))))))) (w_e (e_mod (w_e (e_fdiv (w_peek (pv 0)) (w_e e_int))) (w_e e_int))))))
 ss_nil)
 (ss_cons (s_set (fun _ h => ps_set (i := 1) sc__law_called.nd (by rfl) (by first | exact Or.inl rfl | exact Or.inr rfl) h) (e_fdiv (w_peek (pv 0)) (w_e e_int)))
 (ss_cons (s_set (fun _ h => ps_set (i := 2) sc__law_called.nd (by rfl) (by first | exact Or.inl rfl | exact Or.inr rfl) h) (e_str (by decide +kernel)))
 (ss_cons (s_for (passes_of (by rfl)) (by rfl) (i_rng1 (by rfl) T.z_range (a_cons (e_add (by rfl) (w_e e_int) (w_e (e_mod (w_e (e_fdiv (w_peek (pv 0)) (w_e e_int))) (w_e e_int)))) a_nil)) (g_name (pg_name (i := 3) sc__law_called.nd (by rfl) (by first | exact Or.inl rfl | exact Or.inr rfl))) (ss_cons (s_set (fun _ h => ps_set (i := 2) sc__law_called.nd (by rfl) (by first | exact Or.inl rfl | exact Or.inr rfl) h) (e_add (by rfl) (w_e (e_ix (by rfl) (w_e (e_str (by decide +kernel))) (w_e (e_mod (w_peek (pv 1)) (w_e e_int))))) (w_peek (pv 2))))
 (ss_one (s_set (fun _ h => ps_set (i := 1) sc__law_called.nd (by rfl) (by first | exact Or.inl rfl | exact Or.inr rfl) h) (e_fdiv (w_peek (pv 1)) (w_e e_int))))) (Ghost.kills [3]))
 (ss_one (s_ret (e_var (pv 2))))))))
theorem sc__law_thing : FnScope n__law_thing p__law_thing (defScope s__law_thing) := ⟨rfl, rfl, rfl, by decide +kernel, rfl, by decide +kernel, by decide +kernel⟩
theorem ok__law_thing (T : Tx K mg) : FnOk P w K mg base (L2.CX P w) 2 T.a__law_thing T.d__law_thing p__law_thing (spD T.Γ 1 den__law_thing) := by
  refine fn_ok (Γ := T.Γ) (k := 1) T.u__law_thing sc__law_thing fun cdv A outer s H E hr => ?_
  exact (ss_cons (s_set (fun _ h => ps_set (i := 1) sc__law_thing.nd (by rfl) (by first | exact Or.inl rfl | exact Or.inr rfl) h) (e_call (FnD.mk0 (ok__law_called T) T.b__law_called T.u__law_called.kp) (hr.mono (by decide)) (takes_of (by rfl) (by rfl) (by rfl) (by rfl)) (by rfl) T.m__law_called (a_cons (e_fdiv (w_peek (pv 0)) (w_e e_int)) a_nil)))
 (ss_cons (s_set (fun _ h => ps_set (i := 2) sc__law_thing.nd (by rfl) (by first | exact Or.inl rfl | exact Or.inr rfl) h) (e_mod (w_e (e_fdiv (w_peek (pv 0)) (w_e e_int))) (w_e (e_len (by rfl) (by rfl) T.z_len (aw_cons (w_peek (pv 1)) aw_nil)))))
 (ss_cons (s_if (t_lt (w_e (e_mod (w_peek (pv 0)) (w_e e_int))) (w_e e_int))
 (ss_one (s_ret (e_tup (a_cons (e_var (pv 1)) (a_cons e_bl a_nil)))))
 ss_nil)
 (ss_cons (s_if (t_lt (w_e (e_mod (w_peek (pv 0)) (w_e e_int))) (w_e e_int))
 (ss_cons (s_set (fun _ h => ps_set (i := 3) sc__law_thing.nd (by rfl) (by first | exact Or.inl rfl | exact Or.inr rfl) h) (e_ix (by rfl) (w_e (e_str (by decide +kernel))) (w_e (e_sub (w_e (e_mod (w_peek (pv 0)) (w_e e_int))) (w_e e_int)))))
 (ss_cons (s_set (fun _ h => ps_set (i := 4) sc__law_thing.nd (by rfl) (by first | exact Or.inl rfl | exact Or.inr rfl) h) (e_sub (w_e (e_add (by rfl) (w_peek (pv 2)) (w_e e_int))) (w_e (e_mod (w_e (e_fdiv (w_peek (pv 0)) (w_e e_int))) (w_e e_int)))))
 (ss_one (s_ret (e_tup (a_cons (e_add (by rfl) (w_e (e_add (by rfl) (w_e (e_slice (by rfl) (w_peek (pv 1)) o_none (o_some (e_var (pv 2))))) (w_peek (pv 3)))) (w_e (e_slice (by rfl) (w_peek (pv 1)) (o_some (e_var (pv 4))) o_none))) (a_cons e_bl a_nil)))))))
 ss_nil)
 (ss_cons (s_set (fun _ h => ps_set (i := 5) sc__law_thing.nd (by rfl) (by first | exact Or.inl rfl | exact Or.inr rfl) h) (e_lst (a_cons (e_str (by decide +kernel)) (a_cons (e_add (by rfl) (w_peek (pv 1)) (w_e (e_slice (by rfl) (w_e (e_str (by decide +kernel))) (o_some (e_var (pv 2))) o_none))) (a_cons e_non (a_cons e_int (a_cons (e_eq (by rfl) hr.units (w_e (e_mod (w_e (e_fdiv (w_peek (pv 0)) (w_e e_int))) (w_e e_int))) (w_e e_int)) (a_cons (e_lst (a_cons (e_var (pv 1)) a_nil)) (a_cons (e_n (n_disp (pps_cons (e_var (pv 1)) (e_var (pv 1)) pps_nil)) flat_disp) a_nil)))))))))
 (ss_cons (s_set (fun _ h => ps_set (i := 6) sc__law_thing.nd (by rfl) (by first | exact Or.inl rfl | exact Or.inr rfl) h) (e_ix (by rfl) (w_peek (pv 5)) (w_e (e_sub (w_e (e_mod (w_peek (pv 0)) (w_e e_int))) (w_e e_int)))))
 (ss_one (s_ret (e_tup (a_cons (e_var (pv 6)) (a_cons (e_and (e_isB (b := "str") (by rfl) (by rfl) T.z_isinstance (w_peek (pv 6)) (by rfl) T.z_str (by decide +kernel)) (e_and (e_lt (w_e e_int) (w_e (e_len (by rfl) (by rfl) T.z_len (aw_cons (w_peek (pv 6)) aw_nil)))) (e_one (e_lt (w_e (e_len (by rfl) (by rfl) T.z_len (aw_cons (w_peek (pv 6)) aw_nil))) (w_e e_int))))) a_nil)))))))))))
theorem sc_law : FnScope n_law p_law (defScope s_law) := ⟨rfl, rfl, rfl, by decide +kernel, rfl, by decide +kernel, by decide +kernel⟩
theorem ok_law (T : Tx K mg) : FnOk P w K mg base (L2.CX P w) 3 T.a_law T.d_law p_law (spD T.Γ 1 den_law) := by
  refine fn_ok (Γ := T.Γ) (k := 2) T.u_law sc_law fun cdv A outer s H E hr => ?_
  exact (ss_cons (s_set (fun _ h => ps_set (i := 1) sc_law.nd (by rfl) (by first | exact Or.inl rfl | exact Or.inr rfl) h) (e_add (by rfl) (w_e (e_slice (by rfl) (w_peek (pv 0)) o_none (o_some e_int))) (w_n (n_lst (a_cons (e_add (by rfl) (w_e (e_call (FnD.mk0 (ok__law_nth T) T.b__law_nth T.u__law_nth.kp) (hr.mono (by decide)) (takes_of (by rfl) (by rfl) (by rfl) (by rfl)) (by rfl) T.m__law_nth (a_cons (e_var (pv 0)) (a_cons e_int a_nil)))) (w_e e_int)) (a_cons e_int (a_cons e_int a_nil)))))))
 (ss_cons (s_for (passes_of (by rfl)) (by rfl) (i_list (by rfl) (e_var (pv 1))) (g_name (pg_name (i := 2) sc_law.nd (by rfl) (by first | exact Or.inl rfl | exact Or.inr rfl))) (ss_cons (s_asg (fun _ h => ps_asg h (g_tup (n := 2) (by rfl) (by rfl) (gs_cons (g_name (pg_name (i := 3) sc_law.nd (by rfl) (by first | exact Or.inl rfl | exact Or.inr rfl))) (gs_cons (g_name (pg_name (i := 4) sc_law.nd (by rfl) (by first | exact Or.inl rfl | exact Or.inr rfl))) gs_nil)))) (e_call (FnD.mk0 (ok__law_thing T) T.b__law_thing T.u__law_thing.kp) (hr.mono (by decide)) (takes_of (by rfl) (by rfl) (by rfl) (by rfl)) (by rfl) T.m__law_thing (a_cons (e_var (pv 2)) a_nil)))
 (ss_cons (s_set (fun _ h => ps_set (i := 5) sc_law.nd (by rfl) (by first | exact Or.inl rfl | exact Or.inr rfl) h) (e_call (FnD.mk0 (ok_is_name T) T.b_is_name T.u_is_name.kp) (hr.mono (by decide)) (takes_of (by rfl) (by rfl) (by rfl) (by rfl)) (by rfl) T.m_is_name (a_cons (e_var (pv 3)) a_nil)))
 (ss_cons (s_if (PW.pt (t_or (t_not (t_tru (by rfl) (w_e (e_isB (b := "bool") (by rfl) (by rfl) T.z_isinstance (w_peek (pv 5)) (by rfl) T.z_bool (by decide +kernel))))) (t_or1 (t_ne (by rfl) hr.units (w_peek (pv 5)) (w_peek (pv 4))))))
 (ss_one (s_ret e_bl))
 ss_nil)
 (ss_cons (s_if (PW.pt (t_and (t_tru (by rfl) (w_peek (pv 4))) (t_and1 (PW.pt (t_or (t_isnot (w_e (e_call (FnD.mk0 (ok_is_name T) T.b_is_name T.u_is_name.kp) (hr.mono (by decide)) (takes_of (by rfl) (by rfl) (by rfl) (by rfl)) (by rfl) T.m_is_name (a_cons (e_tup (a_cons (e_var (pv 3)) a_nil)) a_nil))) (w_e e_bl)) (t_or1 (t_isnot (w_e (e_call (FnD.mk0 (ok_is_name T) T.b_is_name T.u_is_name.kp) (hr.mono (by decide)) (takes_of (by rfl) (by rfl) (by rfl) (by rfl)) (by rfl) T.m_is_name (a_cons (e_upper (e_var (pv 3))) a_nil))) (w_e e_bl))))))))
 (ss_one (s_ret e_bl))
 ss_nil)
 (ss_one (s_if (PW.pt (t_and (t_tru (by rfl) (w_peek (pv 4))) (t_and1 (PW.pt (t_or (t_isnot (w_e (e_call (FnD.mk0 (ok_is_name T) T.b_is_name T.u_is_name.kp) (hr.mono (by decide)) (takes_of (by rfl) (by rfl) (by rfl) (by rfl)) (by rfl) T.m_is_name (a_cons (e_add (by rfl) (w_peek (pv 3)) (w_e (e_str (by decide +kernel)))) a_nil))) (w_e e_bl)) (t_or1 (t_isnot (w_e (e_call (FnD.mk0 (ok_is_name T) T.b_is_name T.u_is_name.kp) (hr.mono (by decide)) (takes_of (by rfl) (by rfl) (by rfl) (by rfl)) (by rfl) T.m_is_name (a_cons (e_add (by rfl) (w_e (e_str (by decide +kernel))) (w_peek (pv 3))) a_nil))) (w_e e_bl))))))))
 (ss_one (s_ret e_bl))
 ss_nil)))))) (Ghost.kills [2, 3, 4, 5]))
 (ss_one (s_ret e_bl))))
end

/-! g.end -/
def spLaw (K : PySem.W.Frag) : Sp := fun vs H Q _ => ∃ (a : Addr) (ns : List Int), vs = [.ref a] ∧ SqL K H a (ns.map V.int) ∧ ns.length ≤ 63 ∧ ∀ H', Q (.bl true) H'
theorem law_sp {P : Program} {w : World} {K : PySem.W.Frag} {mg : Str → Option Value} {base : Heap} (T : Tx K mg) : FnOk P w K mg base (L2.CX P w) 3 T.a_law T.d_law ["script"] (spLaw K) := FnOk.imp (ok_law T) fun vs H Q E ⟨a, ns, e, q, hl, k⟩ => end_sp law_true e q hl k
theorem all_mk {l : PySem.W.OpenLaw} {w : World} {K : PySem.W.Frag} {h : Heap} {mg : Str → Option Value} {fa : Addr} (X : K.In h) (G : h.Ns mainGlobals mg) (hfa : mg "law" = some (.ref fa))
    {f_is_name : Addr} {od_is_name an_is_name : Option Addr} {sl_is_name : Array (Option Value)} {oc_is_name kV_is_name dc_is_name pm_is_name cd_is_name ct_is_name : Value}
    {f__law_nth : Addr} {od__law_nth an__law_nth : Option Addr} {sl__law_nth : Array (Option Value)} {oc__law_nth kV__law_nth dc__law_nth pm__law_nth cd__law_nth ct__law_nth : Value}
    {f__law_called : Addr} {od__law_called an__law_called : Option Addr} {sl__law_called : Array (Option Value)} {oc__law_called kV__law_called dc__law_called pm__law_called cd__law_called ct__law_called : Value}
    {f__law_thing : Addr} {od__law_thing an__law_thing : Option Addr} {sl__law_thing : Array (Option Value)} {oc__law_thing kV__law_thing dc__law_thing pm__law_thing cd__law_thing ct__law_thing : Value}
    {f_law : Addr} {od_law an_law : Option Addr} {sl_law : Array (Option Value)} {oc_law kV_law dc_law pm_law cd_law ct_law : Value}
    {t_LONGEST : Tok}
    {t_LETTERS : Tok}
    (A_is_name : PySem.W.nsIn K mainGlobals "is_name" = some (some (.ref f_is_name)))
    (L_is_name : K.lookup f_is_name = some ⟨oc_is_name, od_is_name, .func (PySem.W.fnOf "is_name" "is_name" (defArgs s_is_name) (defBody s_is_name) (defScope s_is_name) .none kV_is_name dc_is_name pm_is_name an_is_name cd_is_name ct_is_name), sl_is_name⟩)
    (C_is_name : PySem.W.codeIn K cd_is_name "is_name" = true)
    (K_is_name : PySem.W.keepIn K (.ref f_is_name) = true)
    (A__law_nth : PySem.W.nsIn K mainGlobals "_law_nth" = some (some (.ref f__law_nth)))
    (L__law_nth : K.lookup f__law_nth = some ⟨oc__law_nth, od__law_nth, .func (PySem.W.fnOf "_law_nth" "_law_nth" (defArgs s__law_nth) (defBody s__law_nth) (defScope s__law_nth) .none kV__law_nth dc__law_nth pm__law_nth an__law_nth cd__law_nth ct__law_nth), sl__law_nth⟩)
    (C__law_nth : PySem.W.codeIn K cd__law_nth "_law_nth" = true)
    (K__law_nth : PySem.W.keepIn K (.ref f__law_nth) = true)
    (A__law_called : PySem.W.nsIn K mainGlobals "_law_called" = some (some (.ref f__law_called)))
    (L__law_called : K.lookup f__law_called = some ⟨oc__law_called, od__law_called, .func (PySem.W.fnOf "_law_called" "_law_called" (defArgs s__law_called) (defBody s__law_called) (defScope s__law_called) .none kV__law_called dc__law_called pm__law_called an__law_called cd__law_called ct__law_called), sl__law_called⟩)
    (C__law_called : PySem.W.codeIn K cd__law_called "_law_called" = true)
    (K__law_called : PySem.W.keepIn K (.ref f__law_called) = true)
    (A__law_thing : PySem.W.nsIn K mainGlobals "_law_thing" = some (some (.ref f__law_thing)))
    (L__law_thing : K.lookup f__law_thing = some ⟨oc__law_thing, od__law_thing, .func (PySem.W.fnOf "_law_thing" "_law_thing" (defArgs s__law_thing) (defBody s__law_thing) (defScope s__law_thing) .none kV__law_thing dc__law_thing pm__law_thing an__law_thing cd__law_thing ct__law_thing), sl__law_thing⟩)
    (C__law_thing : PySem.W.codeIn K cd__law_thing "_law_thing" = true)
    (K__law_thing : PySem.W.keepIn K (.ref f__law_thing) = true)
    (A_law : PySem.W.nsIn K mainGlobals "law" = some (some (.ref f_law)))
    (L_law : K.lookup f_law = some ⟨oc_law, od_law, .func (PySem.W.fnOf "law" "law" (defArgs s_law) (defBody s_law) (defScope s_law) .none kV_law dc_law pm_law an_law cd_law ct_law), sl_law⟩)
    (C_law : PySem.W.codeIn K cd_law "law" = true)
    (K_law : PySem.W.keepIn K (.ref f_law) = true)
    (Z_all : PySem.W.nsIn K mainGlobals "all" = some none)
    (Z_bool : PySem.W.nsIn K mainGlobals "bool" = some none)
    (Z_isinstance : PySem.W.nsIn K mainGlobals "isinstance" = some none)
    (Z_len : PySem.W.nsIn K mainGlobals "len" = some none)
    (Z_range : PySem.W.nsIn K mainGlobals "range" = some none)
    (Z_str : PySem.W.nsIn K mainGlobals "str" = some none)
    (G_LONGEST : PySem.W.nsIn K mainGlobals "LONGEST" = some (some (.int 8 t_LONGEST)))
    (G_LETTERS : PySem.W.nsIn K mainGlobals "LETTERS" = some (some (.str "abcdefghijklmnopqrstuvwxyz" t_LETTERS))) :
    ∃ fd : FuncData, (∀ (s : Shared) (v : Value), BindsTo s fd ⟨[v], []⟩ [("script", v)]) ∧ ∀ base : Heap, K.In base → base.Ns mainGlobals mg → FnOk l.prog w K mg base (L2.CX l.prog w) 3 fa fd ["script"] (spLaw K) := by
  have e := hfa.symm.trans (PySem.W.mg_of X G A_law)
  cases e
  have u_is_name := fun_mk (st := s_is_name) L_is_name C_is_name K_is_name
  have b_is_name := u_is_name.binds (ps := p_is_name) fun _ _ _ _ _ _ us hl => match us, hl with | [_], _ => rfl
  have u__law_nth := fun_mk (st := s__law_nth) L__law_nth C__law_nth K__law_nth
  have b__law_nth := u__law_nth.binds (ps := p__law_nth) fun _ _ _ _ _ _ us hl => match us, hl with | [_, _], _ => rfl
  have u__law_called := fun_mk (st := s__law_called) L__law_called C__law_called K__law_called
  have b__law_called := u__law_called.binds (ps := p__law_called) fun _ _ _ _ _ _ us hl => match us, hl with | [_], _ => rfl
  have u__law_thing := fun_mk (st := s__law_thing) L__law_thing C__law_thing K__law_thing
  have b__law_thing := u__law_thing.binds (ps := p__law_thing) fun _ _ _ _ _ _ us hl => match us, hl with | [_], _ => rfl
  have u_law := fun_mk (st := s_law) L_law C_law K_law
  have b_law := u_law.binds (ps := p_law) fun _ _ _ _ _ _ us hl => match us, hl with | [_], _ => rfl
  exact ⟨PySem.W.fnOf "law" "law" (defArgs s_law) (defBody s_law) (defScope s_law) .none kV_law dc_law pm_law an_law cd_law ct_law, fun s v => .of_eq rfl, fun base _ _ => law_sp { a_is_name := _, d_is_name := _, u_is_name := u_is_name, b_is_name := b_is_name, m_is_name := PySem.W.mg_of X G A_is_name, a__law_nth := _, d__law_nth := _, u__law_nth := u__law_nth, b__law_nth := b__law_nth, m__law_nth := PySem.W.mg_of X G A__law_nth, a__law_called := _, d__law_called := _, u__law_called := u__law_called, b__law_called := b__law_called, m__law_called := PySem.W.mg_of X G A__law_called, a__law_thing := _, d__law_thing := _, u__law_thing := u__law_thing, b__law_thing := b__law_thing, m__law_thing := PySem.W.mg_of X G A__law_thing, a_law := _, d_law := _, u_law := u_law, b_law := b_law, m_law := PySem.W.mg_of X G A_law, z_all := PySem.W.mg_none_of X G Z_all, z_bool := PySem.W.mg_none_of X G Z_bool, z_isinstance := PySem.W.mg_none_of X G Z_isinstance, z_len := PySem.W.mg_none_of X G Z_len, z_range := PySem.W.mg_none_of X G Z_range, z_str := PySem.W.mg_none_of X G Z_str, t_LONGEST := _, g_LONGEST := PySem.W.mg_of X G G_LONGEST, t_LETTERS := _, g_LETTERS := PySem.W.mg_of X G G_LETTERS }⟩
theorem walk {l : PySem.W.OpenLaw} {q : Program} {loose : List Str} {XP : (Str → Option Value) → Heap → Prop} {YP : World → Heap → Prop} {d : DefRec} {K : Params → PySem.W.Frag} (hn : l.most = some 63) (hdf : d.params.defaults = [])
    (hY : ∀ (w : World) (h : Heap), YP w h → (K w.params).In h)
    (F : ∀ (w : World) (mg : Str → Option Value) (fa : Addr) (h : Heap), (K w.params).In h → h.Ns mainGlobals mg → mg d.name = some (.ref fa) →
      ∃ fd : FuncData, (∀ (s : Shared) (u : Value), BindsTo s fd ⟨[u], []⟩ [("script", u)]) ∧ ∀ base : Heap, (K w.params).In base → base.Ns mainGlobals mg → FnOk l.prog w (K w.params) mg base (L2.CX l.prog w) 3 fa fd ["script"] (spLaw (K w.params))) :
    PySem.W.WalkO q loose XP YP l.row.toRowW d [] (fun f vs => PySem.call f vs) :=
  L2.walk_of (n := 63) (k := 3) (x := "script") (CX := fun w => L2.CX l.prog w) (sp := fun w => spLaw (K w.params)) hn (by decide) hdf ⟨rfl, by decide, by decide⟩ hY F (fun _ _ a ns hl _ hS => ⟨a, ns, rfl, hS, hl, fun _ => rfl⟩) fun _ _ _ _ _ ⟨_, _, _, _, _, _, _, _, _, _, _, _, z⟩ => z
end Lw
open PySem PySem.W PyProof.Rows
set_option maxRecDepth 100000 in
set_option maxHeartbeats 0 in
theorem PySem.Challenge.cw_callbinds_k11_names_holds : PySem.Challenge.rw_callbinds_k11_names.Holds := by
  w_on; o_law; k_head; (case hw => w_witness2)
  k_fill
  refine Lw.walk (l := PySem.Challenge.rw_callbinds_k11_names) rfl rfl (fun w h Y => PySem.W.kIn_of Y) ?F
  case F =>
    intro w mg fa h KX G hmg
    refine' Lw.all_mk KX G hmg ?A_is_name ?L_is_name ?C_is_name ?K_is_name ?A__law_nth ?L__law_nth ?C__law_nth ?K__law_nth ?A__law_called ?L__law_called ?C__law_called ?K__law_called ?A__law_thing ?L__law_thing ?C__law_thing ?K__law_thing ?A_law ?L_law ?C_law ?K_law ?Z_all ?Z_bool ?Z_isinstance ?Z_len ?Z_range ?Z_str ?G_LONGEST ?G_LETTERS
    (case A_is_name => k_is)
    (case L_is_name => k_is)
    (case C_is_name => k_is)
    (case K_is_name => k_is)
    (case A__law_nth => k_is)
    (case L__law_nth => k_is)
    (case C__law_nth => k_is)
    (case K__law_nth => k_is)
    (case A__law_called => k_is)
    (case L__law_called => k_is)
    (case C__law_called => k_is)
    (case K__law_called => k_is)
    (case A__law_thing => k_is)
    (case L__law_thing => k_is)
    (case C__law_thing => k_is)
    (case K__law_thing => k_is)
    (case A_law => k_is)
    (case L_law => k_is)
    (case C_law => k_is)
    (case K_law => k_is)
    (case Z_all => k_is)
    (case Z_bool => k_is)
    (case Z_isinstance => k_is)
    (case Z_len => k_is)
    (case Z_range => k_is)
    (case Z_str => k_is)
    (case G_LONGEST => k_is)
    (case G_LETTERS => k_is)
#print axioms PySem.Challenge.cw_callbinds_k11_names_holds

